import PyProof.Rows.All
import Wide.All
import OpenK.AllK
import Wide.FinOn
import KE.KStateDown
import HandS.ForMost
import HandS.ForExc
import HandS.CallSlots
import HandS.Defaults
import HandS.IsInst
import HandS.TupAny
import HandS.Zip
import HandS.Deep
import HandS.TupMul
import KE.GoesEnum
import KE.GoesNew
import HandS.Iter
import HandS.Style
import HandS.Comp
import HandS.List
import HandS.Wide
import HandS.Words
import HandS.WordsExc
import HandS.Head0
import HandS.Head1
import HandS.Head2
import HandS.HeadEnd
import HandS.HeadHook1
import HandS.HeadHook2
import PySem.Challenge.RW_mendcalls_k03_sums_multiples_and_values
set_option Elab.async false
set_option linter.all false
set_option maxRecDepth 100000
set_option maxHeartbeats 0
/-! DvA: deep values, the store, the relation of a run's state to them, the readings as plain functions. -/
namespace Dv
open PySem PySem.Spec PyProof.Rows L2

/-! ### deep values -/
inductive D where
  | non | bl (b : Bool) | int (i : Int) | str (x : Str) | ty (n : String)
  | tup (l : List D) | lst (l : List D) | scr (l : List D)
  | new (l : List D) | bor (l : List D)
  | ins (c : Str) (fs : List (Str × D))
  | obj (k : Nat) | glo (x : Str)
/-- what a slot holds: nothing known, a frozen value, a list of its own -/
inductive SV where
  | no | v (d : D) | own (l : List D)
structure Src where
  cells : List Int
  at_ : Int
  big : Int
  seed : Int
  cnt : Int
inductive MObj where
  | src (s : Src)
abbrev DEnv := List SV
abbrev Mu := List MObj
structure Exn where
  cls : Str
  fs : List (Str × D)
inductive Out (α : Type) where
  | val (a : α) | exc (x : Exn)
abbrev Res (α : Type) := Option (Out α × Mu)
abbrev DEx := DEnv → Mu → Res D
@[reducible] def bindR {α β : Type} (r : Res α) (f : α → Mu → Res β) : Res β := match r with
  | some (.val a, μ) => f a μ
  | some (.exc x, μ) => some (.exc x, μ)
  | none => none
@[reducible] def ret {α : Type} (a : α) (μ : Mu) : Res α := some (.val a, μ)

/-! ### values and deep values -/
structure Tx where
  K : PySem.W.Frag
  mg : Str → Option Value
abbrev szl (n : Nat) : Prop := n ≤ 16777216
/-- a tuple that stands: frozen, or the module's own -/
def SqG (K : PySem.W.Frag) (G : Hp) (a : Addr) (xs : List V) : Prop :=
  G a = some (.tup xs) ∨ ∃ (o : Obj) (its : Array Value) (n : Nat), K.lookup a = some o ∧ o.cls = .type "tuple" ∧ o.data = .seq its n ∧ its.size ≤ sizeLine ∧ Vals xs its.toList
theorem SqG.sq {K : PySem.W.Frag} {G : Hp} {a : Addr} {xs : List V} (h : SqG K G a xs) : SqT K G a xs := by
  rcases h with h | h
  · exact .inl (.inl h)
  · exact .inr h
theorem sqG_mono {K : PySem.W.Frag} {G G' : Hp} (s : Same G G') {a : Addr} {vs : List V} (h : SqG K G a vs) : SqG K G' a vs := by
  rcases h with h | h
  · exact .inl (s _ _ h)
  · exact .inr h
section
variable (T : Tx) (ρ : List Addr) (G : Hp)
mutual
def Rep : V → D → Prop
  | v, .non => v = .non
  | v, .bl b => v = .bl b
  | v, .int i => v = .int i
  | v, .str x => v = .str x
  | v, .ty n => v = .ty n
  | v, .tup l => ∃ a vs, v = .ref a ∧ SqG T.K G a vs ∧ szl l.length ∧ Reps vs l
  | v, .lst l => ∃ a vs, v = .ref a ∧ G a = some (.lst vs) ∧ szl l.length ∧ Reps vs l
  | v, .scr l => ∃ a vs, v = .ref a ∧ SqL T.K G a vs ∧ szl l.length ∧ Reps vs l
  | _, .new _ => False
  | _, .bor _ => False
  | v, .ins c fs => ∃ a C dx vf, v = .ref a ∧ T.mg c = some (.ref C) ∧ G a = some (.ins C dx vf) ∧ RepF vf fs
  | v, .obj k => ∃ a, v = .ref a ∧ ρ[k]? = some a
  | v, .glo x => ∃ a, v = .ref a ∧ T.mg x = some (.ref a)
def Reps : List V → List D → Prop
  | vs, [] => vs = []
  | vs, d :: ds => ∃ v r, vs = v :: r ∧ Rep v d ∧ Reps r ds
def RepF : List (Str × V) → List (Str × D) → Prop
  | vs, [] => vs = []
  | vs, (f, d) :: ds => ∃ v r, vs = (f, v) :: r ∧ Rep v d ∧ RepF r ds
end
end
def Pre (ρ ρ' : List Addr) : Prop := ∀ (k : Nat) a, ρ[k]? = some a → ρ'[k]? = some a
theorem Pre.refl (ρ : List Addr) : Pre ρ ρ := fun _ _ h => h
theorem Pre.trans {a b c : List Addr} (h : Pre a b) (g : Pre b c) : Pre a c := fun k x e => g k x (h k x e)
section
variable {T : Tx} {ρ ρ' : List Addr} {G G' H : Hp}
theorem sqT_mono (s : Same G G') {a : Addr} {vs : List V} (h : SqT T.K G a vs) : SqT T.K G' a vs := by
  rcases h with (h | ⟨o, h⟩) | h
  · exact .inl (.inl (s _ _ h))
  · exact .inl (.inr ⟨o, s _ _ h⟩)
  · exact .inr h
theorem sqL_mono (s : Same G G') {a : Addr} {vs : List V} (h : SqL T.K G a vs) : SqL T.K G' a vs := by
  rcases h with (h | ⟨o, h⟩) | h
  · exact .inl (.inl (s _ _ h))
  · exact .inl (.inr ⟨o, s _ _ h⟩)
  · exact .inr h
mutual
theorem Rep.mono (s : Same G G') (p : Pre ρ ρ') : ∀ {d : D} {v : V}, Rep T ρ G v d → Rep T ρ' G' v d
  | .non, _, h => h
  | .bl _, _, h => h
  | .int _, _, h => h
  | .str _, _, h => h
  | .ty _, _, h => h
  | .tup l, v, h => by
    unfold Rep at h ⊢
    obtain ⟨a, vs, e, q, z, r⟩ := h
    exact ⟨a, vs, e, sqG_mono s q, z, Reps.mono s p r⟩
  | .lst l, v, h => by
    unfold Rep at h ⊢
    obtain ⟨a, vs, e, q, z, r⟩ := h
    exact ⟨a, vs, e, s _ _ q, z, Reps.mono s p r⟩
  | .scr l, v, h => by
    unfold Rep at h ⊢
    obtain ⟨a, vs, e, q, z, r⟩ := h
    exact ⟨a, vs, e, sqL_mono s q, z, Reps.mono s p r⟩
  | .new _, _, h => by unfold Rep at h; exact h.elim
  | .bor _, _, h => by unfold Rep at h; exact h.elim
  | .ins c fs, v, h => by
    unfold Rep at h ⊢
    obtain ⟨a, C, dx, vf, e, m, q, r⟩ := h
    exact ⟨a, C, dx, vf, e, m, s _ _ q, RepF.mono s p r⟩
  | .obj k, v, h => by
    unfold Rep at h ⊢
    obtain ⟨a, e, q⟩ := h
    exact ⟨a, e, p _ _ q⟩
  | .glo x, v, h => by unfold Rep at h ⊢; exact h
theorem Reps.mono (s : Same G G') (p : Pre ρ ρ') : ∀ {l : List D} {vs : List V}, Reps T ρ G vs l → Reps T ρ' G' vs l
  | [], _, h => by unfold Reps at h ⊢; exact h
  | d :: ds, vs, h => by
    unfold Reps at h ⊢
    obtain ⟨v, r, e, q, t⟩ := h
    exact ⟨v, r, e, Rep.mono s p q, Reps.mono s p t⟩
theorem RepF.mono (s : Same G G') (p : Pre ρ ρ') : ∀ {l : List (Str × D)} {vs : List (Str × V)}, RepF T ρ G vs l → RepF T ρ' G' vs l
  | [], _, h => by unfold RepF at h ⊢; exact h
  | (f, d) :: ds, vs, h => by
    unfold RepF at h ⊢
    obtain ⟨v, r, e, q, t⟩ := h
    exact ⟨v, r, e, Rep.mono s p q, RepF.mono s p t⟩
end
theorem Reps.nil : Reps T ρ G [] [] := by unfold Reps; rfl
theorem Reps.cons {v : V} {d : D} {vs : List V} {l : List D} (h : Rep T ρ G v d) (t : Reps T ρ G vs l) : Reps T ρ G (v :: vs) (d :: l) := by
  unfold Reps; exact ⟨v, vs, rfl, h, t⟩
theorem Reps.length : ∀ {l : List D} {vs : List V}, Reps T ρ G vs l → vs.length = l.length
  | [], vs, h => by unfold Reps at h; subst h; rfl
  | d :: ds, vs, h => by
    unfold Reps at h
    obtain ⟨v, r, rfl, _, t⟩ := h
    simp [Reps.length t]
theorem Reps.get : ∀ {l : List D} {vs : List V} {i : Nat} {d : D}, Reps T ρ G vs l → l[i]? = some d → ∃ v, vs[i]? = some v ∧ Rep T ρ G v d
  | [], _, _, _, _, e => by simp at e
  | x :: ds, vs, 0, d, h, e => by
    unfold Reps at h
    obtain ⟨v, r, rfl, q, t⟩ := h
    simp at e; subst e
    exact ⟨v, rfl, q⟩
  | x :: ds, vs, i + 1, d, h, e => by
    unfold Reps at h
    obtain ⟨v, r, rfl, q, t⟩ := h
    obtain ⟨w, e1, e2⟩ := Reps.get (i := i) t (by simpa using e)
    exact ⟨w, by simpa using e1, e2⟩
theorem Reps.append : ∀ {l m : List D} {vs us : List V}, Reps T ρ G vs l → Reps T ρ G us m → Reps T ρ G (vs ++ us) (l ++ m)
  | [], m, vs, us, h, g => by unfold Reps at h; subst h; exact g
  | d :: ds, m, vs, us, h, g => by
    unfold Reps at h
    obtain ⟨v, r, rfl, q, t⟩ := h
    exact .cons q (Reps.append t g)
theorem Reps.drop : ∀ {l : List D} {vs : List V} (n : Nat), Reps T ρ G vs l → Reps T ρ G (vs.drop n) (l.drop n)
  | _, _, 0, h => h
  | [], vs, n + 1, h => by unfold Reps at h; subst h; simp [Reps]
  | d :: ds, vs, n + 1, h => by
    unfold Reps at h
    obtain ⟨v, r, rfl, q, t⟩ := h
    exact Reps.drop n t
theorem Reps.take : ∀ {l : List D} {vs : List V} (n : Nat), Reps T ρ G vs l → Reps T ρ G (vs.take n) (l.take n)
  | _, _, 0, h => by simp [Reps]
  | [], vs, n + 1, h => by unfold Reps at h; subst h; simp [Reps]
  | d :: ds, vs, n + 1, h => by
    unfold Reps at h
    obtain ⟨v, r, rfl, q, t⟩ := h
    exact .cons q (Reps.take n t)
theorem Reps.one {v : V} {d : D} (h : Rep T ρ G v d) : Reps T ρ G [v] [d] := .cons h .nil
theorem Reps.inv1 {vs : List V} {d : D} (h : Reps T ρ G vs [d]) : ∃ v, vs = [v] ∧ Rep T ρ G v d := by
  unfold Reps at h
  obtain ⟨v, r, rfl, q, t⟩ := h
  unfold Reps at t; subst t
  exact ⟨v, rfl, q⟩
theorem Reps.inv {vs : List V} {d : D} {l : List D} (h : Reps T ρ G vs (d :: l)) : ∃ v r, vs = v :: r ∧ Rep T ρ G v d ∧ Reps T ρ G r l := by
  unfold Reps at h; exact h
theorem Reps.inv0 {vs : List V} (h : Reps T ρ G vs []) : vs = [] := by unfold Reps at h; exact h
end

/-! ### the store -/
def srcV (l : Addr) (s : Src) : List V := [.ref l, .int s.at_, .int s.big, .int s.seed, .int s.cnt]
def MR (T : Tx) (ρ : List Addr) (G H : Hp) (a : Addr) : MObj → Prop
  | .src s => ∃ l, H a = some (.lst (srcV l s)) ∧ G l = some (.lst (s.cells.map V.int))
structure StR (T : Tx) (ρ : List Addr) (G H : Hp) (μ : Mu) : Prop where
  len : ρ.length = μ.length
  nd : ρ.Nodup
  off : ∀ a ∈ ρ, G a = none
  at_ : ∀ (k : Nat) m, μ[k]? = some m → ∃ a, ρ[k]? = some a ∧ MR T ρ G H a m
/-- all objects but the store's stand; what is new is new -/
structure Ext (ρ : List Addr) (G H : Hp) (ρ' : List Addr) (G' H' : Hp) : Prop where
  gg : Same G G'
  pre : Pre ρ ρ'
  keep : ∀ a o, H a = some o → ∃ o', H' a = some o' ∧ (a ∉ ρ → o' = o)
  fg : ∀ a o, G' a = some o → G a = none → H a = none
  fr : ∀ a, a ∈ ρ' → a ∉ ρ → H a = none
section
variable {ρ ρ' ρ'' : List Addr} {G G' G'' H H' H'' : Hp}
theorem Ext.refl (ρ : List Addr) (G H : Hp) : Ext ρ G H ρ G H :=
  ⟨fun _ _ h => h, .refl _, fun _ o h => ⟨o, h, fun _ => rfl⟩, fun _ _ h n => (by rw [n] at h; cases h), fun _ h n => absurd h n⟩
theorem mem_of_pre (p : Pre ρ ρ') {a : Addr} (h : a ∈ ρ) : a ∈ ρ' := by
  obtain ⟨k, hk⟩ := List.mem_iff_getElem?.mp h
  exact List.mem_iff_getElem?.mpr ⟨k, p k a hk⟩
theorem Ext.old (a : Ext ρ G H ρ' G' H') {x : Addr} {o : HO} (h : H x = some o) (n : x ∉ ρ) : H' x = some o := by
  obtain ⟨o', e, k⟩ := a.keep x o h
  rw [e, k n]
theorem Ext.none (a : Ext ρ G H ρ' G' H') {x : Addr} (h : H' x = Option.none) : H x = Option.none := by
  cases e : H x with
  | none => rfl
  | some o =>
    obtain ⟨o', e', _⟩ := a.keep x o e
    rw [e'] at h; cases h
theorem Ext.trans (a : Ext ρ G H ρ' G' H') (b : Ext ρ' G' H' ρ'' G'' H'') : Ext ρ G H ρ'' G'' H'' where
  gg := a.gg.trans b.gg
  pre := a.pre.trans b.pre
  keep := fun x o h => by
    obtain ⟨o1, e1, k1⟩ := a.keep x o h
    obtain ⟨o2, e2, k2⟩ := b.keep x o1 e1
    refine ⟨o2, e2, fun n => ?_⟩
    rw [k2 fun m => ?_, k1 n]
    rw [a.fr x m n] at h; cases h
  fg := fun x o h n => by
    cases e : G' x with
    | some o' => exact a.fg x o' e n
    | none => exact a.none (b.fg x o h e)
  fr := fun x h n => by
    by_cases m : x ∈ ρ'
    · exact a.fr x m n
    · exact a.none (b.fr x h m)
end

/-! ### a body's state -/
structure Bs where
  H0 : Hp
  G0 : Hp
  ρ0 : List Addr
  xo : List (Addr × List V)
section
variable (T : Tx) (B : Bs) (ρ : List Addr) (G H : Hp) (σ : L2.St) (env : DEnv)
def SlR (i : Nat) : SV → Prop
  | .no => True
  | .v d => ∃ v : V, σ[i]? = some (some v) ∧ Rep T ρ G v d
  | .own l => ∃ (p : Addr) (vs : List V), σ[i]? = some (some (.ref p)) ∧ H p = some (.lst vs) ∧ Reps T ρ G vs l ∧ szl l.length ∧ G p = none ∧ p ∉ ρ ∧ B.H0 p = none
structure RD (μ : Mu) : Prop where
  gh : Same G H
  ext : Ext B.ρ0 B.G0 B.H0 ρ G H
  len : env.length = σ.length
  slot : ∀ (i : Nat) (s : SV), env[i]? = some s → SlR T B ρ G H σ i s
  own : ∀ (i j : Nat) (l l' : List D) (p : Addr), env[i]? = some (.own l) → env[j]? = some (.own l') → σ[i]? = some (some (.ref p)) → σ[j]? = some (some (.ref p)) → i = j
  st : StR T ρ G H μ
  xo : ∀ q ∈ B.xo, H q.1 = some (.lst q.2) ∧ G q.1 = none ∧ q.1 ∉ ρ ∧ B.H0 q.1 = none ∧ ∀ (i : Nat) (l' : List D), env[i]? = some (.own l') → σ[i]? ≠ some (some (.ref q.1))
  xn : (B.xo.map (·.1)).Nodup
/-- a value that is held on -/
def HeldR (v : V) : D → Prop
  | .bor l => ∃ (i : Nat) (p : Addr), env[i]? = some (.own l) ∧ σ[i]? = some (some (.ref p)) ∧ v = .ref p
  | d => Rep T ρ G v d
/-- a value that has just come -/
def RepX (v : V) : D → Prop
  | .new l => ∃ (p : Addr) (vs : List V), v = .ref p ∧ H p = some (.lst vs) ∧ Reps T ρ G vs l ∧ szl l.length ∧ G p = none ∧ p ∉ ρ ∧ B.H0 p = none ∧ (∀ (i : Nat) (l' : List D), env[i]? = some (.own l') → σ[i]? ≠ some (some (.ref p))) ∧ ∀ q ∈ B.xo, q.1 ≠ p
  | d => HeldR T ρ G σ env v d
end
section
variable {T : Tx} {B : Bs} {ρ ρ' : List Addr} {G G' H H' : Hp} {σ : L2.St} {env : DEnv} {μ : Mu}
theorem HeldR.mono (s : Same G G') (p : Pre ρ ρ') {v : V} {d : D} (h : HeldR T ρ G σ env v d) : HeldR T ρ' G' σ env v d := by
  cases d with
  | bor l => exact h
  | _ => exact Rep.mono s p (show Rep _ _ _ _ _ from h)
theorem HeldR.of {v : V} {d : D} (h : Rep T ρ G v d) : HeldR T ρ G σ env v d := by
  cases d with
  | bor l => unfold Rep at h; exact h.elim
  | _ => exact h
theorem RepX.of {v : V} {d : D} (h : HeldR T ρ G σ env v d) : RepX T B ρ G H σ env v d := by
  cases d with
  | new l => unfold HeldR Rep at h; exact h.elim
  | _ => exact h
theorem RepX.ofR {v : V} {d : D} (h : Rep T ρ G v d) : RepX T B ρ G H σ env v d := .of (.of h)
/-- an object is added to what is frozen -/
theorem StR.alloc {p : Addr} {o : HO} (h : StR T ρ G H μ) (hp : p ∉ ρ) (gn : G p = none ) (hH : ∀ a o', H a = some o' → a ≠ p → H' a = some o') (hne : ∀ a ∈ ρ, a ≠ p) : StR T ρ (upd G p o) H' μ where
  len := h.len
  nd := h.nd
  off := fun a ha => by rw [upd_ne (hne a ha)]; exact h.off a ha
  at_ := fun k m hm => by
    obtain ⟨a, ea, r⟩ := h.at_ k m hm
    refine ⟨a, ea, ?_⟩
    cases m with
    | src s =>
      obtain ⟨l, e1, e2⟩ := r
      refine ⟨l, hH _ _ e1 (hne a (List.mem_of_getElem? ea)), ?_⟩
      by_cases q : l = p
      · subst q; rw [gn] at e2; cases e2
      · rw [upd_ne q]; exact e2
theorem RD.fresh_ (R : RD T B ρ G H σ env μ) {p : Addr} (n : H p = Option.none) : G p = Option.none ∧ p ∉ ρ ∧ B.H0 p = Option.none := by
  refine ⟨?_, fun m => ?_, R.ext.none n⟩
  · cases e : G p with
    | none => rfl
    | some o => rw [R.gh p o e] at n; cases n
  · obtain ⟨k, hk⟩ := List.mem_iff_getElem?.mp m
    have hlt : k < μ.length := by rw [← R.st.len]; exact (List.getElem?_eq_some_iff.mp hk).1
    obtain ⟨a, ea, r⟩ := R.st.at_ k (μ[k]) (by simp [hlt])
    rw [hk] at ea; cases ea
    cases hm : μ[k] with
    | src s =>
      rw [hm] at r
      obtain ⟨l, e1, _⟩ := r
      rw [e1] at n; cases n
theorem same_upd (n : G p = none) : Same G (upd G p o) := fun b u e => by
  rw [upd_ne (fun q => (by rw [q, n] at e; cases e))]; exact e
/-- a new object that is frozen at once -/
theorem RD.alloc (R : RD T B ρ G H σ env μ) {p : Addr} {o : HO} (n : H p = Option.none) : RD T B ρ (upd G p o) (upd H p o) σ env μ := by
  obtain ⟨gn, pn, bn⟩ := R.fresh_ n
  have hne : ∀ a o', H a = some o' → a ≠ p := fun a o' e q => by rw [q, n] at e; cases e
  refine ⟨fun b u e => ?_, ⟨R.ext.gg.trans (same_upd gn), R.ext.pre, fun a u e => ?_, fun a u e e0 => ?_, R.ext.fr⟩, R.len, fun i s hs => ?_, R.own, R.st.alloc pn gn (fun a o' e q => by rw [upd_ne q]; exact e) fun a ha q => pn (q ▸ ha), fun q hq => ?_, R.xn⟩
  rotate_left 4
  · obtain ⟨e1, e2, e3⟩ := R.xo q hq
    have z := hne q.1 _ e1
    exact ⟨by rw [upd_ne z]; exact e1, by rw [upd_ne z]; exact e2, e3⟩
  · by_cases q : b = p
    · subst q; rw [upd_same] at e ⊢; exact e
    · rw [upd_ne q] at e ⊢; exact R.gh b u e
  · obtain ⟨o', e1, k⟩ := R.ext.keep a u e
    exact ⟨o', by rw [upd_ne (hne a o' e1)]; exact e1, k⟩
  · by_cases q : a = p
    · subst q; exact bn
    · rw [upd_ne q] at e; exact R.ext.fg a u e e0
  · have h := R.slot i s hs
    cases s with
    | no => trivial
    | v d =>
      obtain ⟨v, e, r⟩ := h
      exact ⟨v, e, r.mono (same_upd gn) (.refl _)⟩
    | own l =>
      obtain ⟨q, vs, e1, e2, e3, e4, e5, e6, e7⟩ := h
      have z := hne q _ e2
      exact ⟨q, vs, e1, by rw [upd_ne z]; exact e2, e3.mono (same_upd gn) (.refl _), e4, by rw [upd_ne z]; exact e5, e6, e7⟩
/-- a new object that is not frozen -/
theorem RD.allocN (R : RD T B ρ G H σ env μ) {p : Addr} {o : HO} (n : H p = Option.none) : RD T B ρ G (upd H p o) σ env μ := by
  obtain ⟨gn, pn, bn⟩ := R.fresh_ n
  have hne : ∀ a o', H a = some o' → a ≠ p := fun a o' e q => by rw [q, n] at e; cases e
  refine ⟨fun b u e => ?_, ⟨R.ext.gg, R.ext.pre, fun a u e => ?_, R.ext.fg, R.ext.fr⟩, R.len, fun i s hs => ?_, R.own, ⟨R.st.len, R.st.nd, R.st.off, fun k m hm => ?_⟩, fun q hq => ?_, R.xn⟩
  rotate_left 4
  · obtain ⟨e1, e2⟩ := R.xo q hq
    exact ⟨by rw [upd_ne (hne q.1 _ e1)]; exact e1, e2⟩
  · rw [upd_ne (hne b u (R.gh b u e))]; exact R.gh b u e
  · obtain ⟨o', e1, k⟩ := R.ext.keep a u e
    exact ⟨o', by rw [upd_ne (hne a o' e1)]; exact e1, k⟩
  · have h := R.slot i s hs
    cases s with
    | no => trivial
    | v d => exact h
    | own l =>
      obtain ⟨q, vs, e1, e2, r⟩ := h
      exact ⟨q, vs, e1, by rw [upd_ne (hne q _ e2)]; exact e2, r⟩
  · obtain ⟨a, ea, r⟩ := R.st.at_ k m hm
    refine ⟨a, ea, ?_⟩
    cases m with
    | src s =>
      obtain ⟨l, e1, e2⟩ := r
      exact ⟨l, by rw [upd_ne (hne a _ e1)]; exact e1, e2⟩
/-- a list of nobody's is frozen -/
theorem RD.freeze (R : RD T B ρ G H σ env μ) {p : Addr} {vs : List V} (hp : H p = some (.lst vs)) (pn : p ∉ ρ) (bn : B.H0 p = Option.none) (no : ∀ (i : Nat) (l' : List D), env[i]? = some (.own l') → σ[i]? ≠ some (some (.ref p))) (nx : ∀ q ∈ B.xo, q.1 ≠ p) :
    ∃ G', Same G G' ∧ G' p = some (.lst vs) ∧ RD T B ρ G' H σ env μ := by
  cases gn : G p with
  | some o =>
    have e := R.gh p o gn
    rw [hp] at e; cases e
    exact ⟨G, fun _ _ h => h, gn, R⟩
  | none =>
    refine ⟨upd G p (.lst vs), same_upd gn, upd_same, fun b u e => ?_, ⟨R.ext.gg.trans (same_upd gn), R.ext.pre, R.ext.keep, fun a u e e0 => ?_, R.ext.fr⟩, R.len, fun i s hs => ?_, R.own, R.st.alloc pn gn (fun a o' e _ => e) fun a ha q => pn (q ▸ ha), fun q hq => ?_, R.xn⟩
    rotate_left 3
    · obtain ⟨e1, e2, e3⟩ := R.xo q hq
      exact ⟨e1, by rw [upd_ne (nx q hq)]; exact e2, e3⟩
    · by_cases q : b = p
      · subst q; rw [upd_same] at e; cases e; exact hp
      · rw [upd_ne q] at e; exact R.gh b u e
    · by_cases q : a = p
      · subst q; exact bn
      · rw [upd_ne q] at e; exact R.ext.fg a u e e0
    · have h := R.slot i s hs
      cases s with
      | no => trivial
      | v d =>
        obtain ⟨v, e, r⟩ := h
        exact ⟨v, e, r.mono (same_upd gn) (.refl _)⟩
      | own l =>
        obtain ⟨q, us, e1, e2, e3, e4, e5, e6, e7⟩ := h
        have z : q ≠ p := fun z => no i l hs (z ▸ e1)
        exact ⟨q, us, e1, e2, e3.mono (same_upd gn) (.refl _), e4, by rw [upd_ne z]; exact e5, e6, e7⟩
end

/-! ### what is wanted behind an evaluation -/
def ExR (T : Tx) (ρ : List Addr) (G H : Hp) (cls : Value) (dd : Option Addr) (x : Exn) : Prop :=
  ∃ (C d : Addr) (vf : List (Str × V)), cls = .ref C ∧ T.mg x.cls = some (.ref C) ∧ dd = some d ∧ H d = some (.xd vf) ∧ RepF T ρ G vf x.fs
def KE {α : Type} (T : Tx) (B : Bs) (σ : L2.St) (env : DEnv) (W : WX) (P : List Addr → Hp → Hp → Mu → α → Prop) (ρ : List Addr) (G : Hp) : Res α → Prop
  | some (.val a, μ') => ∀ ρ' G' H', Same G G' → Pre ρ ρ' → RD T B ρ' G' H' σ env μ' → P ρ' G' H' μ' a
  | some (.exc x, μ') => ∀ ρ' G' H' cls dd, Same G G' → Pre ρ ρ' → RD T B ρ' G' H' σ env μ' → ExR T ρ' G' H' cls dd x → W cls dd σ H'
  | none => False
section
variable {α β : Type} {T : Tx} {B : Bs} {σ : L2.St} {env : DEnv} {W : WX} {P P' : List Addr → Hp → Hp → Mu → α → Prop} {Pb : List Addr → Hp → Hp → Mu → β → Prop} {ρ ρ' : List Addr} {G G' : Hp} {r : Res α} {f : α → Mu → Res β}
theorem KE.weak (h : KE T B σ env W P ρ G r) (s : Same G G') (p : Pre ρ ρ') : KE T B σ env W P ρ' G' r := by
  match r, h with
  | some (.val a, μ), h => exact fun ρ2 G2 H2 s2 p2 R => h ρ2 G2 H2 (s.trans s2) (p.trans p2) R
  | some (.exc x, μ), h => exact fun ρ2 G2 H2 c d s2 p2 R e => h ρ2 G2 H2 c d (s.trans s2) (p.trans p2) R e
theorem KE.imp (h : KE T B σ env W P ρ G r) (i : ∀ ρ' G' H' μ' a, Same G G' → Pre ρ ρ' → RD T B ρ' G' H' σ env μ' → P ρ' G' H' μ' a → P' ρ' G' H' μ' a) : KE T B σ env W P' ρ G r := by
  match r, h with
  | some (.val a, μ), h => exact fun ρ2 G2 H2 s2 p2 R => i _ _ _ _ _ s2 p2 R (h ρ2 G2 H2 s2 p2 R)
  | some (.exc x, μ), h => exact h
theorem KE.bind (h : KE T B σ env W Pb ρ G (bindR r f)) : KE T B σ env W (fun ρ1 G1 _ μ1 a => KE T B σ env W Pb ρ1 G1 (f a μ1)) ρ G r := by
  match r, h with
  | some (.val a, μ), h => exact fun ρ2 G2 H2 s2 p2 R => KE.weak (r := f a μ) h s2 p2
  | some (.exc x, μ), h => exact h
end

/-! ### holding and freezing -/
def hold : D → D
  | .new l => .lst l
  | d => d
def nobor : D → Bool
  | .bor _ => false
  | _ => true
section
variable {T : Tx} {B : Bs} {ρ ρ' : List Addr} {G G' H H' : Hp} {σ : L2.St} {env : DEnv} {μ : Mu}
theorem RepX.hold {v : V} {d : D} (h : RepX T B ρ G H σ env v d) (R : RD T B ρ G H σ env μ) : ∃ G', Same G G' ∧ RD T B ρ G' H σ env μ ∧ HeldR T ρ G' σ env v (hold d) := by
  cases d with
  | new l =>
    obtain ⟨p, vs, rfl, hp, r, z, gn, pn, bn, no, nx⟩ := h
    obtain ⟨G', s, g, R'⟩ := R.freeze hp pn bn no nx
    refine ⟨G', s, R', ?_⟩
    show Rep T ρ G' _ (.lst l)
    unfold Rep
    exact ⟨p, vs, rfl, g, z, r.mono s (.refl _)⟩
  | _ => exact ⟨G, fun _ _ h => h, R, h⟩
theorem HeldR.rep {v : V} {d : D} (h : HeldR T ρ G σ env v d) (n : nobor d = true) : Rep T ρ G v d := by
  cases d with
  | bor l => cases n
  | _ => exact h
/-- arguments that are held -/
inductive HReps (T : Tx) (ρ : List Addr) (G : Hp) (σ : L2.St) (env : DEnv) : List V → List D → Prop where
  | nil : HReps T ρ G σ env [] []
  | cons {v : V} {d : D} {vs : List V} {ds : List D} : HeldR T ρ G σ env v d → HReps T ρ G σ env vs ds → HReps T ρ G σ env (v :: vs) (d :: ds)
theorem HReps.mono (s : Same G G') (p : Pre ρ ρ') {vs : List V} {ds : List D} (h : HReps T ρ G σ env vs ds) : HReps T ρ' G' σ env vs ds := by
  induction h with
  | nil => exact .nil
  | cons a _ ih => exact .cons (a.mono s p) ih
theorem HReps.reps {vs : List V} {ds : List D} (h : HReps T ρ G σ env vs ds) (n : ds.all nobor = true) : Reps T ρ G vs ds := by
  induction h with
  | nil => exact .nil
  | cons a _ ih =>
    simp only [List.all_cons, Bool.and_eq_true] at n
    exact .cons (a.rep n.1) (ih n.2)
theorem HReps.length {vs : List V} {ds : List D} (h : HReps T ρ G σ env vs ds) : vs.length = ds.length := by
  induction h with
  | nil => rfl
  | cons _ _ ih => simp [ih]
end

/-! ### the judgements -/
abbrev tx (X : Cx) : Tx := ⟨X.K, X.mg⟩
def PX (T : Tx) (B : Bs) (σ : L2.St) (env : DEnv) (Q : VK) : List Addr → Hp → Hp → Mu → D → Prop := fun ρ' G' H' _ d => ∀ v, RepX T B ρ' G' H' σ env v d → Q v H'
def rdE (T : Tx) (B : Bs) (W : WX) (m : DEx) : TE := fun σ H Q => ∃ ρ G env μ, RD T B ρ G H σ env μ ∧ KE T B σ env W (PX T B σ env Q) ρ G (m env μ)
structure DE (X : Cx) (B : Bs) (W : WX) (e : Expr) (m : DEx) : Prop where
  run : PE X e (rdE (tx X) B W m)
def rdT (T : Tx) (B : Bs) (W : WX) (m : DEnv → Mu → Res Bool) : TT := fun σ H Q => ∃ ρ G env μ, RD T B ρ G H σ env μ ∧ KE T B σ env W (fun _ _ H' _ b => Q b H') ρ G (m env μ)
structure DT (X : Cx) (B : Bs) (W : WX) (e : Expr) (m : DEnv → Mu → Res Bool) : Prop where
  run : PT X e (rdT (tx X) B W m)
structure DW (X : Cx) (B : Bs) (W : WX) (e : Expr) (m : DEnv → Mu → Res Bool) : Prop where
  run : PW X e (rdT (tx X) B W m)
def rdA (T : Tx) (B : Bs) (W : WX) (m : DEnv → Mu → Res (List D)) : TA := fun σ H Q => ∃ ρ G env μ, RD T B ρ G H σ env μ ∧ KE T B σ env W (fun ρ' G' H' _ ds => ∀ vs, HReps T ρ' G' σ env vs ds → Q vs H') ρ G (m env μ)
structure DA (X : Cx) (B : Bs) (W : WX) (es : List Expr) (m : DEnv → Mu → Res (List D)) : Prop where
  run : PA X es (rdA (tx X) B W m)
section
variable {X : Cx} {e : Expr} {es : List Expr}
theorem peImp {t t' : TE} (h : PE X e t) (i : ∀ σ H Q, t' σ H Q → t σ H Q) : PE X e t' := ⟨fun pins s σ H Q I q => h.run pins s σ H Q I (i σ H Q q)⟩
theorem ptImp {t t' : TT} (h : PT X e t) (i : ∀ σ H Q, t' σ H Q → t σ H Q) : PT X e t' := ⟨fun pins s σ H Q I q => h.run pins s σ H Q I (i σ H Q q)⟩
theorem pwImp {t t' : TT} (h : PW X e t) (i : ∀ σ H Q, t' σ H Q → t σ H Q) : PW X e t' := ⟨fun wh pins s σ H Q I q => h.run wh pins s σ H Q I (i σ H Q q)⟩
theorem paImp {t t' : TA} (h : PA X es t) (i : ∀ σ H Q, t' σ H Q → t σ H Q) : PA X es t' := ⟨fun pos pins s σ H Q I q => h.run pos pins s σ H Q I (i σ H Q q)⟩
end
/-- one evaluation, then the next -/
theorem rd_then {T : Tx} {B : Bs} {W : WX} {σ : L2.St} {env : DEnv} {β : Type} {Pb : List Addr → Hp → Hp → Mu → β → Prop} {ρ : List Addr} {G H : Hp} {μ : Mu} {m : DEx} {f : D → Mu → Res β} {Q : VK}
    (R : RD T B ρ G H σ env μ) (k : KE T B σ env W Pb ρ G (bindR (m env μ) f))
    (h : ∀ ρ1 G1 H1 μ1 x d, Same G G1 → Pre ρ ρ1 → RD T B ρ1 G1 H1 σ env μ1 → HeldR T ρ1 G1 σ env x (hold d) → KE T B σ env W Pb ρ1 G1 (f d μ1) → Q x H1) : rdE T B W m σ H Q := by
  refine ⟨ρ, G, env, μ, R, k.bind.imp fun ρ1 G1 H1 μ1 d s p R1 k1 x hx => ?_⟩
  obtain ⟨G2, s2, R2, h2⟩ := hx.hold R1
  exact h ρ1 G2 H1 μ1 x d (s.trans s2) p R2 h2 (k1.weak s2 (.refl _))
end Dv

/-! DvB: the rules of expressions. -/
namespace Dv
open PySem PySem.Spec PyProof.Rows L2
section
variable {X : Cx} {B : Bs} {W : WX} {e a b : Expr} {es : List Expr} {m ma mb : DEx} {ms : DEnv → Mu → Res (List D)} {pos : Pos}
/-! ### names and constants -/
def dVar (i : Nat) : DEx := fun env μ => match env[i]? with
  | some (.v d) => ret d μ
  | some (.own l) => ret (.bor l) μ
  | _ => none
def dC (d : D) : DEx := fun _ μ => ret d μ
theorem de_var {i : Nat} (h : PE X e (tVar i)) : DE X B W e (dVar i) := by
  refine ⟨peImp h fun σ H Q ⟨ρ, G, env, μ, R, k⟩ => ?_⟩
  unfold dVar at k
  cases hs : env[i]? with
  | none => rw [hs] at k; exact k.elim
  | some s =>
    rw [hs] at k
    have q := R.slot i s hs
    cases s with
    | no => exact k.elim
    | v d =>
      obtain ⟨v, hv, r⟩ := q
      exact ⟨v, hv, k ρ G H (fun _ _ h => h) (.refl _) R v (.ofR r)⟩
    | own l =>
      obtain ⟨p, vs, hv, _⟩ := q
      exact ⟨_, hv, k ρ G H (fun _ _ h => h) (.refl _) R (.ref p) ⟨i, p, hs, hv, rfl⟩⟩
theorem de_c {v : V} {d : D} (h : PE X e (tC v)) (r : ∀ ρ G, Rep (tx X) ρ G v d) : DE X B W e (dC d) := by
  refine ⟨peImp h fun σ H Q ⟨ρ, G, env, μ, R, k⟩ => ?_⟩
  exact k ρ G H (fun _ _ h => h) (.refl _) R v (.ofR (r ρ G))
theorem rep_int {T : Tx} {ρ : List Addr} {G : Hp} {i : Int} : Rep T ρ G (.int i) (.int i) := by unfold Rep; rfl
theorem rep_bl {T : Tx} {ρ : List Addr} {G : Hp} {i : Bool} : Rep T ρ G (.bl i) (.bl i) := by unfold Rep; rfl
theorem rep_str {T : Tx} {ρ : List Addr} {G : Hp} {i : Str} : Rep T ρ G (.str i) (.str i) := by unfold Rep; rfl
theorem rep_non {T : Tx} {ρ : List Addr} {G : Hp} : Rep T ρ G .non .non := by unfold Rep; rfl
theorem rep_ty {T : Tx} {ρ : List Addr} {G : Hp} {i : String} : Rep T ρ G (.ty i) (.ty i) := by unfold Rep; rfl
theorem de_int {i j pos} : DE X B W (.Constant (.int i) j pos) (dC (.int i)) := de_c pe_int fun _ _ => rep_int
theorem de_bl {i j pos} : DE X B W (.Constant (.bool i) j pos) (dC (.bl i)) := de_c pe_bl fun _ _ => rep_bl
theorem de_str {i j pos} : DE X B W (.Constant (.str i) j pos) (dC (.str i)) := de_c pe_str fun _ _ => rep_str
theorem de_non {j pos} : DE X B W (.Constant .none j pos) (dC .non) := de_c pe_non fun _ _ => rep_non

/-! ### operators -/
abbrev F2 := D → D → Mu → Res D
def dBin (f : F2) (ma mb : DEx) : DEx := fun env μ => bindR (ma env μ) fun d μ => bindR (mb env μ) fun d' μ => f (hold d) (hold d') μ
/-- an operation by values -/
def OpD (T : Tx) (r : R2) (f : F2) : Prop := ∀ (B : Bs) (W : WX) (σ : L2.St) (env : DEnv) (ρ : List Addr) (G H : Hp) (μ : Mu) (x y : V) (d d' : D) (Q : VK),
  RD T B ρ G H σ env μ → HeldR T ρ G σ env x d → HeldR T ρ G σ env y d' → KE T B σ env W (PX T B σ env Q) ρ G (f d d' μ) → r x y H Q
theorem rd_bin {T : Tx} {r : R2} {f : F2} (hf : OpD T r f) {σ : L2.St} {H : Hp} {Q : VK} (h : rdE T B W (dBin f ma mb) σ H Q) : tOp r (rdE T B W ma) (rdE T B W mb) σ H Q := by
  obtain ⟨ρ, G, env, μ, R, k⟩ := h
  refine rd_then (f := fun d μ => bindR (mb env μ) fun d' μ => f (hold d) (hold d') μ) R k fun ρ1 G1 H1 μ1 x d s p R1 hx k1 => ?_
  refine rd_then (f := fun d' μ => f (hold d) (hold d') μ) R1 k1 fun ρ2 G2 H2 μ2 y d' s2 p2 R2 hy k2 => ?_
  exact hf B W σ env ρ2 G2 H2 μ2 x y _ _ Q R2 (hx.mono s2 p2) hy k2
theorem de_op {op : Operator} {r : R2} {f : F2} (ho : OpR X (binaryOp op) r) (hf : OpD (tx X) r f) (ha : DE X B W a ma) (hb : DE X B W b mb) : DE X B W (.BinOp a op b pos) (dBin f ma mb) :=
  ⟨peImp (pe_op ho ha.run hb.run) fun _ _ _ h => rd_bin hf h⟩
theorem de_cmp {op : CmpOp} {r : R2} {f : F2} (ho : OpR X (compareOp op) r) (hf : OpD (tx X) r f) (ha : DE X B W a ma) (hb : DE X B W b mb) (hm : behindInMarks op b = false) : DE X B W (.Compare a [op] [b] pos) (dBin f ma mb) :=
  ⟨peImp (pe_cmpR ho ha.run hb.run hm) fun _ _ _ h => rd_bin hf h⟩
theorem de_ix {r : R2} {f : F2} (ho : IxR X r) (hf : OpD (tx X) r f) (ha : DE X B W a ma) (hb : DE X B W b mb) (hs : PlainIx b) : DE X B W (.Subscript a b pos) (dBin f ma mb) :=
  ⟨peImp (pe_ix ho ha.run hb.run hs) fun _ _ _ h => rd_bin hf h⟩
/-! ### arithmetic -/
theorem int_inv {T : Tx} {ρ : List Addr} {G : Hp} {σ : L2.St} {env : DEnv} {x : V} {i : Int} (h : HeldR T ρ G σ env x (.int i)) : x = .int i := by
  have h : Rep T ρ G x (.int i) := h
  unfold Rep at h; exact h
def fAdd : F2
  | .int i, .int j, μ => ret (.int (i + j)) μ
  | .tup l, .tup m, μ => if szl (l.length + m.length) then ret (.tup (l ++ m)) μ else none
  | .lst l, .lst m, μ => if szl (l.length + m.length) then ret (.new (l ++ m)) μ else none
  | .str x, .str y, μ => if szl (x.length + y.length) then ret (.str (x ++ y)) μ else none
  | _, _, _ => none
def rAddA (K : PySem.W.Frag) : R2 := fun x y H Q => rI0 (fun i j => .int (i + j)) x y H Q ∨ rCatA K x y H Q ∨ rCat x y H Q ∨ (∃ i j, x = .str i ∧ y = .str j ∧ i.length + j.length ≤ sizeLine ∧ Q (.str (i ++ j)) H)
theorem op_addA : OpR X (binaryOp .Add) (rAddA X.K) := op_add.or (op_catA.or (op_cat.or op_add_str))
theorem szl_line {n : Nat} (h : szl n) : n ≤ sizeLine := by rw [sizeLine_eq]; exact h
section
variable {T : Tx} {ρ : List Addr} {G H : Hp} {σ : L2.St} {env : DEnv} {μ : Mu} {x : V} {Q : VK}
theorem tup_inv {l : List D} (h : HeldR T ρ G σ env x (.tup l)) : ∃ a vs, x = .ref a ∧ SqG T.K G a vs ∧ szl l.length ∧ Reps T ρ G vs l := by
  have h : Rep T ρ G x (.tup l) := h
  unfold Rep at h; exact h
theorem lst_inv {l : List D} (h : HeldR T ρ G σ env x (.lst l)) : ∃ a vs, x = .ref a ∧ G a = some (.lst vs) ∧ szl l.length ∧ Reps T ρ G vs l := by
  have h : Rep T ρ G x (.lst l) := h
  unfold Rep at h; exact h
theorem str_inv {z : Str} (h : HeldR T ρ G σ env x (.str z)) : x = .str z := by
  have h : Rep T ρ G x (.str z) := h
  unfold Rep at h; exact h
theorem bl_inv {z : Bool} (h : HeldR T ρ G σ env x (.bl z)) : x = .bl z := by
  have h : Rep T ρ G x (.bl z) := h
  unfold Rep at h; exact h
theorem rep_tup {a : Addr} {vs : List V} {l : List D} (h : SqG T.K G a vs) (z : szl l.length) (r : Reps T ρ G vs l) : Rep T ρ G (.ref a) (.tup l) := by
  unfold Rep; exact ⟨a, vs, rfl, h, z, r⟩
theorem rep_lst {a : Addr} {vs : List V} {l : List D} (h : G a = some (.lst vs)) (z : szl l.length) (r : Reps T ρ G vs l) : Rep T ρ G (.ref a) (.lst l) := by
  unfold Rep; exact ⟨a, vs, rfl, h, z, r⟩
/-- nothing has happened -/
theorem KE.here {d : D} {v : V} (k : KE T B σ env W (PX T B σ env Q) ρ G (ret d μ)) (R : RD T B ρ G H σ env μ) (r : RepX T B ρ G H σ env v d) : Q v H := k ρ G H (fun _ _ h => h) (.refl _) R v r
/-- a new tuple -/
theorem KE.newT {l : List D} {vs : List V} (k : KE T B σ env W (PX T B σ env Q) ρ G (ret (.tup l) μ)) (R : RD T B ρ G H σ env μ) (r : Reps T ρ G vs l) (z : szl l.length) : ∀ p, H p = none → Q (.ref p) (upd H p (.tup vs)) := fun p n => by
  have gn := (R.fresh_ n).1
  exact k ρ _ _ (same_upd gn) (.refl _) (R.alloc n) _ (.ofR (rep_tup (.inl upd_same) z (r.mono (same_upd gn) (.refl _))))
/-- a new list -/
theorem KE.newL {l : List D} {vs : List V} (k : KE T B σ env W (PX T B σ env Q) ρ G (ret (.new l) μ)) (R : RD T B ρ G H σ env μ) (r : Reps T ρ G vs l) (z : szl l.length) : ∀ p, H p = none → Q (.ref p) (upd H p (.lst vs)) := fun p n => by
  obtain ⟨gn, pn, bn⟩ := R.fresh_ n
  refine k ρ G _ (fun _ _ h => h) (.refl _) (R.allocN n) _ ⟨p, vs, rfl, upd_same, r, z, gn, pn, bn, fun i l' e1 e2 => ?_, fun q hq e => ?_⟩
  · obtain ⟨q, us, e3, e4, _⟩ := R.slot i _ e1
    rw [e2] at e3; cases e3
    rw [n] at e4; cases e4
  · have e1 := (R.xo q hq).1
    rw [e, n] at e1; cases e1
/-- the list at a value -/
def seqL : D → Option (List D)
  | .lst l => some l
  | .bor l => some l
  | _ => none
theorem seqL_inv {d : D} {l : List D} (R : RD T B ρ G H σ env μ) (h : HeldR T ρ G σ env x d) (e : seqL d = some l) : ∃ a vs, x = .ref a ∧ H a = some (.lst vs) ∧ szl l.length ∧ Reps T ρ G vs l := by
  cases d with
  | lst l' =>
    cases e
    obtain ⟨a, vs, q, g, z, r⟩ := lst_inv h
    exact ⟨a, vs, q, R.gh _ _ g, z, r⟩
  | bor l' =>
    cases e
    obtain ⟨i, p, e1, e2, rfl⟩ := h
    obtain ⟨p', vs, e3, e4, r, z, _⟩ := R.slot i _ e1
    rw [e2] at e3; cases e3
    exact ⟨p, vs, rfl, e4, z, r⟩
  | _ => cases e
end
theorem opd_add : OpD (tx X) (rAddA X.K) fAdd := by
  intro B W σ env ρ G H μ x y d d' Q R hx hy k
  unfold fAdd at k
  split at k
  · exact .inl ⟨_, _, int_inv hx, int_inv hy, k.here R (.ofR rep_int)⟩
  · rename_i l m
    split at k
    · rename_i hz
      obtain ⟨a, vs, rfl, q, z, r⟩ := tup_inv hx
      obtain ⟨b, us, rfl, q', z', r'⟩ := tup_inv hy
      refine .inr (.inl ⟨a, b, vs, us, rfl, rfl, (sqG_mono R.gh q).sq, (sqG_mono R.gh q').sq, by rw [r.length, r'.length]; exact szl_line hz, fun e => ?_, fun _ e => ?_, fun _ _ => k.newT R (r.append r') (by simpa using hz)⟩)
      · subst e
        have e0 : l = [] := by have := r.length; simp at this; exact List.length_eq_zero_iff.mp this.symm
        subst e0
        exact k.here R (.ofR (rep_tup q' z' r'))
      · subst e
        have e0 : m = [] := by have := r'.length; simp at this; exact List.length_eq_zero_iff.mp this.symm
        subst e0
        rw [List.append_nil] at k
        exact k.here R (.ofR (rep_tup q z r))
    · exact k.elim
  · rename_i l m
    split at k
    · rename_i hz
      obtain ⟨a, vs, rfl, q, z, r⟩ := lst_inv hx
      obtain ⟨b, us, rfl, q', z', r'⟩ := lst_inv hy
      exact .inr (.inr (.inl ⟨a, b, vs, us, rfl, rfl, R.gh _ _ q, R.gh _ _ q', by rw [r.length, r'.length]; exact szl_line hz, k.newL R (r.append r') (by simpa using hz)⟩))
    · exact k.elim
  · split at k
    · rename_i hz
      exact .inr (.inr (.inr ⟨_, _, str_inv hx, str_inv hy, szl_line hz, k.here R (.ofR rep_str)⟩))
    · exact k.elim
  · exact k.elim
def fSub : F2
  | .int i, .int j, μ => ret (.int (i - j)) μ
  | _, _, _ => none
theorem opd_sub : OpD (tx X) (rI0 fun i j => .int (i - j)) fSub := by
  intro B W σ env ρ G H μ x y d d' Q R hx hy k
  unfold fSub at k
  split at k
  · exact ⟨_, _, int_inv hx, int_inv hy, k.here R (.ofR rep_int)⟩
  · exact k.elim
def fMod : F2
  | .int i, .int j, μ => if 0 < j then ret (.int (i % j)) μ else none
  | _, _, _ => none
theorem opd_mod : OpD (tx X) (rI (fun _ j => 0 < j) fun i j => .int (i % j)) fMod := by
  intro B W σ env ρ G H μ x y d d' Q R hx hy k
  unfold fMod at k
  split at k
  · split at k
    · rename_i h0
      exact ⟨_, _, int_inv hx, int_inv hy, h0, k.here R (.ofR rep_int)⟩
    · exact k.elim
  · exact k.elim
def fCmp (p : Int → Int → Bool) : F2
  | .int i, .int j, μ => ret (.bl (p i j)) μ
  | _, _, _ => none
theorem opd_cmp {p : Int → Int → Bool} : OpD (tx X) (rI0 fun i j => .bl (p i j)) (fCmp p) := by
  intro B W σ env ρ G H μ x y d d' Q R hx hy k
  unfold fCmp at k
  split at k
  · exact ⟨_, _, int_inv hx, int_inv hy, k.here R (.ofR rep_bl)⟩
  · exact k.elim
end
end Dv

/-! DvC: products, equality, membership, tests, arguments, displays, subscripts. -/
namespace Dv
open PySem PySem.Spec PyProof.Rows L2
/-! ### data for == -/
mutual
def toPy : D → PyData
  | .non => .none
  | .bl b => .bool b
  | .int i => .int i
  | .str x => .str x
  | .tup l => .tuple (toPys l)
  | .lst l => .list (toPys l)
  | .bor l => .list (toPys l)
  | .new _ => .none
  | .ty _ => .none
  | .scr _ => .none
  | .ins _ _ => .none
  | .obj _ => .none
  | .glo _ => .none
def toPys : List D → List PyData
  | [] => []
  | d :: ds => toPy d :: toPys ds
end
/-- the data of at most n levels -/
def plainD : Nat → D → Bool
  | _, .non => true
  | _, .bl _ => true
  | _, .int _ => true
  | _, .str x => PyData.strOk x
  | n + 1, .tup l => l.all (plainD n)
  | n + 1, .lst l => l.all (plainD n)
  | n + 1, .bor l => l.all (plainD n)
  | _, _ => false
def deq (a b : D) : Bool := PyData.eqv (toPy a) (toPy b)
section
variable {X : Cx} {B : Bs} {W : WX} {T : Tx} {ρ : List Addr} {G H : Hp} {σ : L2.St} {env : DEnv} {μ : Mu} {x : V} {Q : VK}
mutual
theorem dp_of {K : PySem.W.Frag} (gh : Same G H) (hk : K = T.K) : ∀ {d : D} {v : V} {n : Nat}, plainD n d = true → Rep T ρ G v d → Dp K H v (toPy d)
  | .non, v, n, _, r => by unfold Rep at r; subst r; exact .non
  | .bl b, v, n, _, r => by unfold Rep at r; subst r; exact .bl b
  | .int b, v, n, _, r => by unfold Rep at r; subst r; exact .int b
  | .str b, v, n, _, r => by unfold Rep at r; subst r; exact .str b
  | .tup l, v, 0, h, r => by unfold plainD at h; cases h
  | .tup l, v, n + 1, h, r => by
    unfold Rep at r; obtain ⟨a, vs, rfl, q, z, rs⟩ := r
    unfold plainD at h
    subst hk
    unfold toPy
    exact .tup (sqG_mono gh q).sq (dps_of gh rfl h rs)
  | .lst l, v, 0, h, r => by unfold plainD at h; cases h
  | .lst l, v, n + 1, h, r => by
    unfold Rep at r; obtain ⟨a, vs, rfl, q, z, rs⟩ := r
    unfold plainD at h
    unfold toPy
    exact .lst (.of (gh _ _ q)) (dps_of gh hk h rs)
  | .bor l, v, n, h, r => by unfold Rep at r; exact r.elim
  | .new l, v, n, h, r => by unfold Rep at r; exact r.elim
  | .ty _, v, n, h, r => by unfold plainD at h; cases h
  | .scr _, v, n, h, r => by unfold plainD at h; cases h
  | .ins _ _, v, n, h, r => by unfold plainD at h; cases h
  | .obj _, v, n, h, r => by unfold plainD at h; cases h
  | .glo _, v, n, h, r => by unfold plainD at h; cases h
theorem dps_of {K : PySem.W.Frag} (gh : Same G H) (hk : K = T.K) : ∀ {l : List D} {vs : List V} {n : Nat}, l.all (plainD n) = true → Reps T ρ G vs l → DpAll K H vs (toPys l)
  | [], vs, n, _, r => by unfold Reps at r; subst r; unfold toPys; exact .nil
  | d :: ds, vs, n, h, r => by
    unfold Reps at r; obtain ⟨v, t, rfl, q, rs⟩ := r
    simp only [List.all_cons, Bool.and_eq_true] at h
    unfold toPys
    exact .cons (dp_of gh hk h.1 q) (dps_of gh hk h.2 rs)
end
mutual
theorem lay_of : ∀ {d : D} {n : Nat}, plainD n d = true → (toPy d).canLay0 = true ∧ (toPy d).depth ≤ n
  | .non, n, _ => by simp [toPy, PyData.canLay0, PyData.depth]
  | .bl b, n, _ => by simp [toPy, PyData.canLay0, PyData.depth]
  | .int b, n, _ => by simp [toPy, PyData.canLay0, PyData.depth]
  | .str b, n, h => by unfold plainD at h; simp [toPy, PyData.canLay0, PyData.depth, h]
  | .tup l, 0, h => by unfold plainD at h; cases h
  | .tup l, n + 1, h => by
    unfold plainD at h
    have q := lays_of h
    unfold toPy
    simp only [PyData.canLay0, PyData.depth]
    exact ⟨q.1, by omega⟩
  | .lst l, 0, h => by unfold plainD at h; cases h
  | .lst l, n + 1, h => by
    unfold plainD at h
    have q := lays_of h
    unfold toPy
    simp only [PyData.canLay0, PyData.depth]
    exact ⟨q.1, by omega⟩
  | .bor l, 0, h => by unfold plainD at h; cases h
  | .bor l, n + 1, h => by
    unfold plainD at h
    have q := lays_of h
    unfold toPy
    simp only [PyData.canLay0, PyData.depth]
    exact ⟨q.1, by omega⟩
  | .new _, n, h => by unfold plainD at h; cases h
  | .ty _, n, h => by unfold plainD at h; cases h
  | .scr _, n, h => by unfold plainD at h; cases h
  | .ins _ _, n, h => by unfold plainD at h; cases h
  | .obj _, n, h => by unfold plainD at h; cases h
  | .glo _, n, h => by unfold plainD at h; cases h
theorem lays_of : ∀ {l : List D} {n : Nat}, l.all (plainD n) = true → PyData.canLayAll0 (toPys l) = true ∧ PyData.depthAll (toPys l) ≤ n
  | [], n, _ => by simp [toPys, PyData.canLayAll0, PyData.depthAll]
  | d :: ds, n, h => by
    simp only [List.all_cons, Bool.and_eq_true] at h
    have q1 := lay_of h.1
    have q2 := lays_of h.2
    unfold toPys
    simp only [PyData.canLayAll0, PyData.depthAll]
    exact ⟨by rw [q1.1, q2.1]; rfl, by omega⟩
end
theorem shaped_of {d : D} (h : plainD 60 d = true) : SeqAt.shaped (toPy d) = true := by
  obtain ⟨a, b⟩ := lay_of h
  unfold SeqAt.shaped
  rw [a, decide_eq_true (by omega)]; rfl
theorem dp_held {K : PySem.W.Frag} (R : RD T B ρ G H σ env μ) (hk : K = T.K) {d : D} (h : plainD 60 d = true) (r : HeldR T ρ G σ env x d) : Dp K H x (toPy d) := by
  cases d with
  | bor l =>
    obtain ⟨a, vs, rfl, q, z, rs⟩ := seqL_inv (d := .bor l) R r rfl
    unfold plainD at h
    unfold toPy
    exact .lst (.of q) (dps_of R.gh hk h rs)
  | _ => exact dp_of (ρ := ρ) R.gh hk h r
def fEq : F2 := fun a b μ => if plainD 60 a && plainD 60 b then ret (.bl (deq a b)) μ else none
def fNe : F2 := fun a b μ => if plainD 60 a && plainD 60 b then ret (.bl (!deq a b)) μ else none
theorem opd_eq : OpD (tx X) (rEqD X.K) fEq := by
  intro B W σ env ρ G H μ x y d d' Q R hx hy k
  unfold fEq at k
  split at k
  · rename_i h
    simp only [Bool.and_eq_true] at h
    exact ⟨_, _, dp_held R rfl h.1 hx, dp_held R rfl h.2 hy, shaped_of h.1, shaped_of h.2, k.here R (.ofR rep_bl)⟩
  · exact k.elim
theorem opd_ne : OpD (tx X) (rNeD X.K) fNe := by
  intro B W σ env ρ G H μ x y d d' Q R hx hy k
  unfold fNe at k
  split at k
  · rename_i h
    simp only [Bool.and_eq_true] at h
    exact ⟨_, _, dp_held R rfl h.1 hx, dp_held R rfl h.2 hy, shaped_of h.1, shaped_of h.2, k.here R (.ofR rep_bl)⟩
  · exact k.elim
/-- x in a list -/
def fIn (neg : Bool) : F2 := fun a b μ => match seqL b with
  | some l => if plainD 59 a && l.all (plainD 59) then ret (.bl (neg != l.any fun z => deq z a)) μ else none
  | none => none
theorem plain_up : ∀ {d : D} {n : Nat}, plainD n d = true → plainD (n + 1) d = true
  | .non, n, _ => by unfold plainD; rfl
  | .bl b, n, _ => by unfold plainD; rfl
  | .int b, n, _ => by unfold plainD; rfl
  | .str b, n, h => by unfold plainD at h ⊢; exact h
  | .tup l, 0, h => by unfold plainD at h; cases h
  | .tup l, n + 1, h => by
    unfold plainD at h ⊢
    rw [List.all_eq_true] at h ⊢
    intro d hd
    have := List.sizeOf_lt_of_mem hd
    exact plain_up (h d hd)
  | .lst l, 0, h => by unfold plainD at h; cases h
  | .lst l, n + 1, h => by
    unfold plainD at h ⊢
    rw [List.all_eq_true] at h ⊢
    intro d hd
    have := List.sizeOf_lt_of_mem hd
    exact plain_up (h d hd)
  | .bor l, 0, h => by unfold plainD at h; cases h
  | .bor l, n + 1, h => by
    unfold plainD at h ⊢
    rw [List.all_eq_true] at h ⊢
    intro d hd
    have := List.sizeOf_lt_of_mem hd
    exact plain_up (h d hd)
  | .new _, n, h => by unfold plainD at h; cases h
  | .ty _, n, h => by unfold plainD at h; cases h
  | .scr _, n, h => by unfold plainD at h; cases h
  | .ins _ _, n, h => by unfold plainD at h; cases h
  | .obj _, n, h => by unfold plainD at h; cases h
  | .glo _, n, h => by unfold plainD at h; cases h
theorem toPys_eq : ∀ l : List D, toPys l = l.map toPy
  | [] => by unfold toPys; rfl
  | d :: ds => by unfold toPys; rw [toPys_eq ds]; rfl
theorem any_py (l : List D) (a : D) : ((toPys l).any fun z => PyData.eqv z (toPy a)) = l.any fun z => deq z a := by
  rw [toPys_eq, List.any_map]; rfl
theorem shaped_list {l : List D} (h : l.all (plainD 59) = true) : SeqAt.shaped (.list (toPys l)) = true := by
  have : plainD 60 (.lst l) = true := by unfold plainD; exact h
  have q := shaped_of this
  unfold toPy at q
  exact q
def rIn2 (K : PySem.W.Frag) : R2 := fun x y H Q => rInD K x y H Q
theorem opd_in : OpD (tx X) (rInD X.K) (fIn false) := by
  intro B W σ env ρ G H μ x y d d' Q R hx hy k
  unfold fIn at k
  split at k
  · rename_i l hl
    split at k
    · rename_i h
      simp only [Bool.and_eq_true] at h
      obtain ⟨a, vs, rfl, q, z, rs⟩ := seqL_inv R hy hl
      refine ⟨_, _, dp_held R rfl (plain_up h.1) hx, .lst (.of q) (dps_of (T := tx X) R.gh rfl h.2 rs), shaped_of (plain_up h.1), shaped_list h.2, ?_⟩
      rw [any_py]
      simp only [Bool.false_bne] at k
      exact k.here R (.ofR rep_bl)
    · exact k.elim
  · exact k.elim
theorem opd_notIn : OpD (tx X) (rNotInD X.K) (fIn true) := by
  intro B W σ env ρ G H μ x y d d' Q R hx hy k
  unfold fIn at k
  split at k
  · rename_i l hl
    split at k
    · rename_i h
      simp only [Bool.and_eq_true] at h
      obtain ⟨a, vs, rfl, q, z, rs⟩ := seqL_inv R hy hl
      refine ⟨_, _, dp_held R rfl (plain_up h.1) hx, .lst (.of q) (dps_of (T := tx X) R.gh rfl h.2 rs), shaped_of (plain_up h.1), shaped_list h.2, ?_⟩
      rw [any_py]
      simp only [Bool.true_bne] at k
      exact k.here R (.ofR rep_bl)
    · exact k.elim
  · exact k.elim
/-- is None -/
def isNon : D → Bool
  | .non => true
  | _ => false
theorem isNon_of {d : D} (r : HeldR T ρ G σ env x d) : decide (x = .non) = isNon d := by
  cases d with
  | non => have r : Rep T ρ G x .non := r; unfold Rep at r; subst r; rfl
  | bl b => rw [bl_inv r]; rfl
  | int b => rw [int_inv r]; rfl
  | str b => rw [str_inv r]; rfl
  | ty b => have r : Rep T ρ G x (.ty b) := r; unfold Rep at r; subst r; rfl
  | tup l => obtain ⟨a, vs, rfl, _⟩ := tup_inv r; rfl
  | lst l => obtain ⟨a, vs, rfl, _⟩ := lst_inv r; rfl
  | scr l => have r : Rep T ρ G x (.scr l) := r; unfold Rep at r; obtain ⟨a, vs, rfl, _⟩ := r; rfl
  | new l => have r : Rep T ρ G x (.new l) := r; unfold Rep at r; exact r.elim
  | bor l => obtain ⟨i, p, _, _, rfl⟩ := r; rfl
  | ins c fs => have r : Rep T ρ G x (.ins c fs) := r; unfold Rep at r; obtain ⟨a, C, dx, vf, rfl, _⟩ := r; rfl
  | obj k => have r : Rep T ρ G x (.obj k) := r; unfold Rep at r; obtain ⟨a, rfl, _⟩ := r; rfl
  | glo k => have r : Rep T ρ G x (.glo k) := r; unfold Rep at r; obtain ⟨a, rfl, _⟩ := r; rfl
def fIs (neg : Bool) : F2
  | d, .non, μ => ret (.bl (neg != isNon d)) μ
  | _, _, _ => none
theorem opd_is : OpD (tx X) (fun x y H Q => y = .non ∧ Q (.bl (decide (x = .non))) H) (fIs false) := by
  intro B W σ env ρ G H μ x y d d' Q R hx hy k
  unfold fIs at k
  split at k
  · have hy : Rep (tx X) ρ G y .non := hy
    unfold Rep at hy; subst hy
    refine ⟨rfl, ?_⟩
    rw [isNon_of hx]
    simp only [Bool.false_bne] at k
    exact k.here R (.ofR rep_bl)
  · exact k.elim
theorem opd_isNot : OpD (tx X) (fun x y H Q => y = .non ∧ Q (.bl (!decide (x = .non))) H) (fIs true) := by
  intro B W σ env ρ G H μ x y d d' Q R hx hy k
  unfold fIs at k
  split at k
  · have hy : Rep (tx X) ρ G y .non := hy
    unfold Rep at hy; subst hy
    refine ⟨rfl, ?_⟩
    rw [isNon_of hx]
    simp only [Bool.true_bne] at k
    exact k.here R (.ofR rep_bl)
  · exact k.elim
/-! ### products -/
def cmul (i j : Int) : Bool := decide (i.natAbs < 18446744073709551616) || decide (j.natAbs < 18446744073709551616)
def repL {α : Type} (n : Nat) (l : List α) : List α := (List.replicate n l).flatten
def fMul : F2
  | .int i, .int j, μ => if cmul i j then ret (.int (i * j)) μ else none
  | .lst l, .int k, μ => if k.natAbs < 1000000 ∧ szl (l.length * k.toNat) then ret (.new (repL k.toNat l)) μ else none
  | .tup l, .int k, μ => if 1 ≤ k ∧ k ≤ 1000 ∧ l.length ≤ 1000 ∧ l ≠ [] then ret (.tup (repL k.toNat l)) μ else none
  | _, _, _ => none
theorem Reps.rep {vs : List V} {l : List D} (r : Reps T ρ G vs l) : ∀ n : Nat, Reps T ρ G (List.replicate n vs).flatten (repL n l)
  | 0 => by simp [repL, Reps]
  | n + 1 => by
    unfold repL
    rw [List.replicate_succ, List.flatten_cons, List.replicate_succ, List.flatten_cons]
    exact r.append (Reps.rep r n)
theorem repL_len {α : Type} (l : List α) : ∀ n : Nat, (repL n l).length = n * l.length
  | 0 => by simp [repL]
  | n + 1 => by
    have := repL_len l n
    unfold repL at this ⊢
    rw [List.replicate_succ, List.flatten_cons, List.length_append, this, Nat.succ_mul]; omega
theorem repL_one {α : Type} (l : List α) : repL 1 l = l := by simp [repL]
theorem tuple_mul_one (l : Addr) (items : Array Value) (n : Nat) (dd : Option Addr) (sl : Array (Option Value)) (u : Tok) :
    Meets (Builtin.«tuple.__mul__» ⟨[.ref l, .int 1 u], []⟩) (fun _ R s => s.heap.get? l = some { cls := .type "tuple", dict := dd, data := .seq items n, slots := sl } ∧ R (.ok (.ret (.ref l))) s) :=
  .of_wp fun prog w A R s h => by
    obtain ⟨hp, g, d, tk, os⟩ := s
    obtain ⟨hl, h⟩ := h
    have f1 := AutoSeq1.idx_int
    wp_walk using wpAny_loadPart' hl
    repeat (first
      | (refine wpAny_ite_false (decide_eq_false (by decide)) ?_; wp_walk using wpAny_loadPart' hl)
      | (refine wpAny_ite_true (decide_eq_true (by simp)) ?_; wp_walk using wpAny_loadPart' hl))
    exact ⟨_, rfl, h⟩
/-- a tuple times 1 is the tuple itself -/
theorem op_rep1 : OpR X (binaryOp .Mult) (fun x y H Q => ∃ l xs, x = .ref l ∧ y = .int 1 ∧ SqT X.K H l xs ∧ Q (.ref l) H) := by
  intro pins s σ H x y v u Q I rx ry h
  obtain ⟨l, xs, rfl, rfl, hT, q⟩ := h
  cases rx
  obtain ⟨t, rfl⟩ := ry
  obtain ⟨its, r, ⟨⟨cls, dd, data, sl⟩, ho, hc, n, hd⟩, hs⟩ := I.tuple hT
  simp only at hc hd
  subst hc hd
  refine wpAny_binaryOp_repeat_ref (T := "tuple") (U := "int") (by decide) ⟨_, ho, rfl⟩ (fun s' => typeIs_int s' 1 t) noFill_tuple_mul F.fills_int_mul F.slot_int_rmul repeat_tuple F.slot_int_index.lookup
    (call_meets F.slot_int_rmul (typeIs_int s 1 t) F.entry_int_rmul (F.args_int_rmul_2 _ _) (int_rmul_tuple 1 t l its.toArray n dd sl)
      ⟨ho, rfl, ⟨_, ho, rfl⟩, call_meets F.slot_tuple_mul ⟨_, ho, rfl⟩ F.entry_tuple_mul (F.args_tuple_mul_2 _ _) (tuple_mul_one l its.toArray n dd sl t) ⟨ho, ?_⟩⟩)
  exact ⟨.ref l, H, I.tok _, rfl, q⟩
def rMulA (K : PySem.W.Frag) : R2 := fun x y H Q => rI CMul (fun i j => .int (i * j)) x y H Q ∨ rRepT K x y H Q ∨ rRep x y H Q ∨ (∃ l xs, x = .ref l ∧ y = .int 1 ∧ SqT K H l xs ∧ Q (.ref l) H)
theorem op_mulA : OpR X (binaryOp .Mult) (rMulA X.K) := op_mul.or (op_repT.or (op_rep.or op_rep1))
theorem cmul_ok {i j : Int} (h : cmul i j = true) : CMul i j := by
  unfold cmul at h
  simp only [Bool.or_eq_true, decide_eq_true_eq] at h
  unfold CMul
  omega
theorem opd_mul : OpD (tx X) (rMulA X.K) fMul := by
  intro B W σ env ρ G H μ x y d d' Q R hx hy k
  unfold fMul at k
  split at k
  · split at k
    · rename_i h
      exact .inl ⟨_, _, int_inv hx, int_inv hy, cmul_ok h, k.here R (.ofR rep_int)⟩
    · exact k.elim
  · rename_i l n
    split at k
    · rename_i h
      obtain ⟨a, vs, rfl, q, z, r⟩ := lst_inv hx
      refine .inr (.inr (.inl ⟨a, n, vs, rfl, int_inv hy, R.gh _ _ q, by omega, by omega, by rw [r.length]; exact szl_line h.2, ?_⟩))
      exact k.newL R (r.rep _) (by rw [repL_len, Nat.mul_comm]; exact h.2)
    · exact k.elim
  · rename_i l n
    split at k
    · rename_i h
      obtain ⟨h1, h2, h3, h4⟩ := h
      obtain ⟨a, vs, rfl, q, z, r⟩ := tup_inv hx
      by_cases e : n = 1
      · subst e
        rw [show ((1 : Int).toNat) = 1 from rfl, repL_one] at k
        exact .inr (.inr (.inr ⟨a, vs, rfl, int_inv hy, (sqG_mono R.gh q).sq, k.here R (.ofR (rep_tup q z r))⟩))
      · have hl := r.length
        refine .inr (.inl ⟨a, n, vs, rfl, int_inv hy, (sqG_mono R.gh q).sq, fun e => h4 ?_, by omega, h2, by omega, k.newT R (r.rep _) ?_⟩)
        · subst e; exact List.length_eq_zero_iff.mp (by simpa using hl.symm)
        · rw [repL_len]
          have : n.toNat * l.length ≤ 1000 * 1000 := Nat.mul_le_mul (by omega) h3
          show _ ≤ 16777216
          omega
    · exact k.elim
  · exact k.elim

/-! ### chains, minus, not -/
def dChain (f g : F2) (ma mb mc : DEx) : DEx := fun env μ => bindR (ma env μ) fun d μ => bindR (mb env μ) fun d' μ => bindR (f (hold d) (hold d') μ) fun b μ => match b with
  | .bl true => bindR (mc env μ) fun d2 μ => g (hold d') (hold d2) μ
  | .bl false => ret (.bl false) μ
  | _ => none
theorem rd_chain {r r' : R2} {f g : F2} {ma mb mc : DEx} (hf : OpD (tx X) r f) (hg : OpD (tx X) r' g) {σ : L2.St} {H : Hp} {Q : VK} (h : rdE (tx X) B W (dChain f g ma mb mc) σ H Q) :
    tChain r r' (rdE (tx X) B W ma) (rdE (tx X) B W mb) (rdE (tx X) B W mc) σ H Q := by
  obtain ⟨ρ, G, env, μ, R, k⟩ := h
  refine rd_then (f := fun d μ => bindR (mb env μ) fun d' μ => bindR (f (hold d) (hold d') μ) fun b μ => match b with
    | .bl true => bindR (mc env μ) fun d2 μ => g (hold d') (hold d2) μ
    | .bl false => ret (.bl false) μ
    | _ => none) R k fun ρ1 G1 H1 μ1 x d s p R1 hx k1 => ?_
  refine rd_then (f := fun d' μ => bindR (f (hold d) (hold d') μ) fun b μ => match b with
    | .bl true => bindR (mc env μ) fun d2 μ => g (hold d') (hold d2) μ
    | .bl false => ret (.bl false) μ
    | _ => none) R1 k1 fun ρ2 G2 H2 μ2 y d' s2 p2 R2 hy k2 => ?_
  refine hf B W σ env ρ2 G2 H2 μ2 x y _ _ _ R2 (hx.mono s2 p2) hy (k2.bind.imp fun ρ3 G3 H3 μ3 z s3 p3 R3 k3 v hv => ?_)
  split at k3
  · have hv : Rep (tx X) ρ3 G3 v (.bl true) := hv
    unfold Rep at hv; subst hv
    refine ⟨true, rfl, ?_⟩
    rw [if_pos rfl]
    refine rd_then (f := fun d2 μ => g (hold d') (hold d2) μ) R3 k3 fun ρ4 G4 H4 μ4 w d2 s4 p4 R4 hw k4 => ?_
    exact hg B W σ env ρ4 G4 H4 μ4 y w _ _ Q R4 ((hy.mono s3 p3).mono s4 p4) hw k4
  · have hv : Rep (tx X) ρ3 G3 v (.bl false) := hv
    unfold Rep at hv; subst hv
    refine ⟨false, rfl, ?_⟩
    rw [if_neg (by decide)]
    exact KE.here (T := tx X) k3 R3 (.ofR rep_bl)
  · exact k3.elim
theorem de_chain {a b c : Expr} {ma mb mc : DEx} {pos : Pos} {op op' : CmpOp} {r r' : R2} {f g : F2} (ho : OpR X (compareOp op) r) (hf : OpD (tx X) r f) (ho' : OpR X (compareOp op') r') (hg : OpD (tx X) r' g) (ha : DE X B W a ma) (hb : DE X B W b mb) (hc : DE X B W c mc)
    (hm : lastMarks [op, op'] [b, c] = false) : DE X B W (.Compare a [op, op'] [b, c] pos) (dChain f g ma mb mc) :=
  ⟨peImp (pe_chain ho ho' ha.run hb.run hc.run hm) fun σ H Q h => rd_chain hf hg h⟩
def fNeg : D → Mu → Res D
  | .int i, μ => ret (.int (-i)) μ
  | _, _ => none
def dNeg (ma : DEx) : DEx := fun env μ => bindR (ma env μ) fNeg
theorem de_neg {a : Expr} {ma : DEx} {pos : Pos} (ha : DE X B W a ma) : DE X B W (.UnaryOp .USub a pos) (dNeg ma) := by
  refine ⟨peImp (pe_un un_neg ha.run) fun σ H Q ⟨ρ, G, env, μ, R, k⟩ => ?_⟩
  refine rd_then (f := fNeg) R k fun ρ1 G1 H1 μ1 x d s p R1 hx k1 => ?_
  unfold fNeg at k1
  split at k1
  · exact ⟨_, int_inv hx, KE.here k1 R1 (.ofR rep_int)⟩
  · exact k1.elim
/-! ### tests -/
def fTest : D → Mu → Res Bool
  | .bl b, μ => ret b μ
  | _, _ => none
/-- an expression that gives a bool, as a test -/
def dTest (m : DEx) : DEnv → Mu → Res Bool := fun env μ => bindR (m env μ) fTest
theorem dt_val {e : Expr} {m : DEx} (h : DE X B W e m) (he : ∀ whole, isTrue e X.env whole = (do let v ← whole; standAt e.pos; holding [v] (truthy v))) : DT X B W e (dTest m) := by
  refine ⟨ptImp (pt_val h.run he) fun σ H Q ⟨ρ, G, env, μ, R, k⟩ => ?_⟩
  refine rd_then (f := fTest) R k fun ρ1 G1 H1 μ1 x d s p R1 hx k1 => ?_
  unfold fTest at k1
  split at k1
  · exact ⟨_, bl_inv hx, k1 ρ1 G1 H1 (fun _ _ h => h) (.refl _) R1⟩
  · exact k1.elim
theorem dt_cmp {a b : Expr} {ma mb : DEx} {pos : Pos} {op : CmpOp} {r : R2} {f : F2} (ho : OpR X (compareOp op) r) (hf : OpD (tx X) r f) (ha : DE X B W a ma) (hb : DE X B W b mb) (hm : behindInMarks op b = false) : DT X B W (.Compare a [op] [b] pos) (dTest (dBin f ma mb)) := by
  refine ⟨ptImp (pt_cmpR ho ha.run hb.run hm) fun σ H Q ⟨ρ, G, env, μ, R, k⟩ => ?_⟩
  show tOp r _ _ σ H _
  refine rd_bin hf ⟨ρ, G, env, μ, R, ?_⟩
  refine (KE.bind (f := fTest) k).imp fun ρ1 G1 H1 μ1 d s p R1 k1 v hv => ?_
  unfold fTest at k1
  split at k1
  · have hv : Rep (tx X) ρ1 G1 v (.bl _) := hv
    unfold Rep at hv
    exact ⟨_, hv, k1 ρ1 G1 H1 (fun _ _ h => h) (.refl _) R1⟩
  · exact k1.elim
theorem dt_chain {a b c : Expr} {ma mb mc : DEx} {pos : Pos} {op op' : CmpOp} {r r' : R2} {f g : F2} (ho : OpR X (compareOp op) r) (hf : OpD (tx X) r f) (ho' : OpR X (compareOp op') r') (hg : OpD (tx X) r' g) (ha : DE X B W a ma) (hb : DE X B W b mb) (hc : DE X B W c mc)
    (hm : lastMarks [op, op'] [b, c] = false) : DT X B W (.Compare a [op, op'] [b, c] pos) (dTest (dChain f g ma mb mc)) := by
  refine ⟨ptImp (pt_chain ho ho' ha.run hb.run hc.run hm) fun σ H Q ⟨ρ, G, env, μ, R, k⟩ => ?_⟩
  show tChain r r' _ _ _ σ H _
  refine rd_chain hf hg ⟨ρ, G, env, μ, R, ?_⟩
  refine (KE.bind (f := fTest) k).imp fun ρ1 G1 H1 μ1 d s p R1 k1 v hv => ?_
  unfold fTest at k1
  split at k1
  · have hv : Rep (tx X) ρ1 G1 v (.bl _) := hv
    unfold Rep at hv
    exact ⟨_, hv, k1 ρ1 G1 H1 (fun _ _ h => h) (.refl _) R1⟩
  · exact k1.elim
def dNotT (m : DEnv → Mu → Res Bool) : DEnv → Mu → Res Bool := fun env μ => bindR (m env μ) fun b μ => ret (!b) μ
theorem dt_not {a : Expr} {m : DEnv → Mu → Res Bool} {pos : Pos} (h : DT X B W a m) : DT X B W (.UnaryOp .Not a pos) (dNotT m) := by
  refine ⟨ptImp (pt_not h.run) fun σ H Q ⟨ρ, G, env, μ, R, k⟩ => ⟨ρ, G, env, μ, R, k.bind.imp fun ρ1 G1 H1 μ1 b s p R1 k1 => ?_⟩⟩
  exact k1 ρ1 G1 H1 (fun _ _ h => h) (.refl _) R1
def dAndT (m n : DEnv → Mu → Res Bool) : DEnv → Mu → Res Bool := fun env μ => bindR (m env μ) fun b μ => if b = true then n env μ else ret false μ
def dOrT (m n : DEnv → Mu → Res Bool) : DEnv → Mu → Res Bool := fun env μ => bindR (m env μ) fun b μ => if b = true then ret true μ else n env μ
section
variable {a b : Expr} {rest : List Expr} {m n : DEnv → Mu → Res Bool} {pos : Pos}
theorem dw_and1 (h : DT X B W a m) : DW X B W (.BoolOp .And [a] pos) m := ⟨pw_and1 h.run⟩
theorem dw_or1 (h : DT X B W a m) : DW X B W (.BoolOp .Or [a] pos) m := ⟨pw_or1 h.run⟩
theorem dw_and (h : DT X B W a m) (g : DW X B W (.BoolOp .And (b :: rest) pos) n) : DW X B W (.BoolOp .And (a :: b :: rest) pos) (dAndT m n) := by
  refine ⟨pwImp (pw_and h.run g.run) fun σ H Q ⟨ρ, G, env, μ, R, k⟩ => ⟨ρ, G, env, μ, R, k.bind.imp fun ρ1 G1 H1 μ1 b s p R1 k1 => ?_⟩⟩
  cases b with
  | true => exact ⟨ρ1, G1, env, μ1, R1, k1⟩
  | false => exact k1 ρ1 G1 H1 (fun _ _ h => h) (.refl _) R1
theorem dw_or (h : DT X B W a m) (g : DW X B W (.BoolOp .Or (b :: rest) pos) n) : DW X B W (.BoolOp .Or (a :: b :: rest) pos) (dOrT m n) := by
  refine ⟨pwImp (pw_or h.run g.run) fun σ H Q ⟨ρ, G, env, μ, R, k⟩ => ⟨ρ, G, env, μ, R, k.bind.imp fun ρ1 G1 H1 μ1 b s p R1 k1 => ?_⟩⟩
  cases b with
  | false => exact ⟨ρ1, G1, env, μ1, R1, k1⟩
  | true => exact k1 ρ1 G1 H1 (fun _ _ h => h) (.refl _) R1
theorem dw_t (h : DW X B W a m) : DT X B W a m := ⟨h.run.pt⟩
end
/-! ### and, or, not, a choice, as values -/
def fB (m : D → Mu → Res D) : D → Mu → Res D := m
def dAndV (ma mb : DEx) : DEx := fun env μ => bindR (ma env μ) fun d μ => match d with
  | .bl true => mb env μ
  | .bl false => ret (.bl false) μ
  | _ => none
def dOrV (ma mb : DEx) : DEx := fun env μ => bindR (ma env μ) fun d μ => match d with
  | .bl false => mb env μ
  | .bl true => ret (.bl true) μ
  | _ => none
def dNotV (ma : DEx) : DEx := fun env μ => bindR (ma env μ) fun d μ => match d with
  | .bl b => ret (.bl (!b)) μ
  | _ => none
def dIf (t : DEnv → Mu → Res Bool) (ma mb : DEx) : DEx := fun env μ => bindR (t env μ) fun b μ => if b = true then ma env μ else mb env μ
section
variable {a b c : Expr} {rest : List Expr} {ma mb : DEx} {t : DEnv → Mu → Res Bool} {pos : Pos}
theorem repx_bl {v : V} {z : Bool} (h : RepX T B ρ G H σ env v (.bl z)) : v = .bl z := by
  have h : Rep T ρ G v (.bl z) := h
  unfold Rep at h; exact h
theorem de_one {op} (h : DE X B W a ma) : DE X B W (.BoolOp op [a] pos) ma := ⟨pe_one h.run⟩
theorem de_and (h : DE X B W a ma) (g : DE X B W (.BoolOp .And (b :: rest) pos) mb) : DE X B W (.BoolOp .And (a :: b :: rest) pos) (dAndV ma mb) := by
  refine ⟨peImp (pe_and h.run g.run) fun σ H Q ⟨ρ, G, env, μ, R, k⟩ => ⟨ρ, G, env, μ, R, k.bind.imp fun ρ1 G1 H1 μ1 d s p R1 k1 v hv => ?_⟩⟩
  split at k1
  · exact ⟨true, repx_bl hv, by rw [if_pos rfl]; exact ⟨ρ1, G1, env, μ1, R1, k1⟩⟩
  · exact ⟨false, repx_bl hv, by rw [if_neg (by decide)]; exact KE.here (T := tx X) k1 R1 (.ofR rep_bl)⟩
  · exact k1.elim
theorem de_or (h : DE X B W a ma) (g : DE X B W (.BoolOp .Or (b :: rest) pos) mb) : DE X B W (.BoolOp .Or (a :: b :: rest) pos) (dOrV ma mb) := by
  refine ⟨peImp (pe_or h.run g.run) fun σ H Q ⟨ρ, G, env, μ, R, k⟩ => ⟨ρ, G, env, μ, R, k.bind.imp fun ρ1 G1 H1 μ1 d s p R1 k1 v hv => ?_⟩⟩
  split at k1
  · exact ⟨false, repx_bl hv, by rw [if_neg (by decide)]; exact ⟨ρ1, G1, env, μ1, R1, k1⟩⟩
  · exact ⟨true, repx_bl hv, by rw [if_pos rfl]; exact KE.here (T := tx X) k1 R1 (.ofR rep_bl)⟩
  · exact k1.elim
theorem de_not (h : DE X B W a ma) : DE X B W (.UnaryOp .Not a pos) (dNotV ma) := by
  refine ⟨peImp (pe_not h.run) fun σ H Q ⟨ρ, G, env, μ, R, k⟩ => ⟨ρ, G, env, μ, R, k.bind.imp fun ρ1 G1 H1 μ1 d s p R1 k1 v hv => ?_⟩⟩
  split at k1
  · exact ⟨_, repx_bl hv, KE.here (T := tx X) k1 R1 (.ofR rep_bl)⟩
  · exact k1.elim
theorem de_if (h : DT X B W c t) (ha : DE X B W a ma) (hb : DE X B W b mb) : DE X B W (.IfExp c a b pos) (dIf t ma mb) := by
  refine ⟨peImp (pe_ifExp h.run ha.run hb.run) fun σ H Q ⟨ρ, G, env, μ, R, k⟩ => ⟨ρ, G, env, μ, R, k.bind.imp fun ρ1 G1 H1 μ1 b s p R1 k1 => ?_⟩⟩
  cases b with
  | true => exact ⟨ρ1, G1, env, μ1, R1, k1⟩
  | false => exact ⟨ρ1, G1, env, μ1, R1, k1⟩
end
/-! ### arguments, displays -/
def dNil : DEnv → Mu → Res (List D) := fun _ μ => ret [] μ
def dCons (m : DEx) (n : DEnv → Mu → Res (List D)) : DEnv → Mu → Res (List D) := fun env μ => bindR (m env μ) fun d μ => bindR (n env μ) fun ds μ => ret (hold d :: ds) μ
section
variable {e : Expr} {es : List Expr} {m : DEx} {n : DEnv → Mu → Res (List D)} {pos : Pos}
theorem da_nil : DA X B W [] dNil := ⟨paImp pa_nil fun σ H Q ⟨ρ, G, env, μ, R, k⟩ => k ρ G H (fun _ _ h => h) (.refl _) R [] .nil⟩
theorem da_cons (h : DE X B W e m) (g : DA X B W es n) (hs : starEach (e :: es) X.env = (false, eval e X.env) :: starEach es X.env := by rfl) : DA X B W (e :: es) (dCons m n) := by
  refine ⟨paImp (pa_cons h.run g.run hs) fun σ H Q ⟨ρ, G, env, μ, R, k⟩ => ?_⟩
  refine rd_then (f := fun d μ => bindR (n env μ) fun ds μ => ret (hold d :: ds) μ) R k fun ρ1 G1 H1 μ1 x d s p R1 hx k1 => ?_
  refine ⟨ρ1, G1, env, μ1, R1, (KE.bind (f := fun ds μ => ret (hold d :: ds) μ) k1).imp fun ρ2 G2 H2 μ2 ds s2 p2 R2 k2 vs hvs => ?_⟩
  exact k2 ρ2 G2 H2 (fun _ _ h => h) (.refl _) R2 _ (.cons (hx.mono s2 p2) hvs)
def fTup (l : List D) (μ : Mu) : Res D := if l.all nobor = true ∧ szl l.length then ret (.tup l) μ else none
def fLst (l : List D) (μ : Mu) : Res D := if l.all nobor = true ∧ szl l.length then ret (.new l) μ else none
def dTup (n : DEnv → Mu → Res (List D)) : DEx := fun env μ => bindR (n env μ) fTup
def dLst (n : DEnv → Mu → Res (List D)) : DEx := fun env μ => bindR (n env μ) fLst
theorem de_tup {x1} (h : DA X B W es n) : DE X B W (.Tuple es x1 pos) (dTup n) := by
  refine ⟨peImp (pe_tup h.run) fun σ H Q ⟨ρ, G, env, μ, R, k⟩ => ⟨ρ, G, env, μ, R, (KE.bind (f := fTup) k).imp fun ρ1 G1 H1 μ1 ds s p R1 k1 vs hvs => ?_⟩⟩
  unfold fTup at k1
  split at k1
  · rename_i hz
    have r := hvs.reps hz.1
    exact ⟨by rw [r.length]; exact szl_line hz.2, k1.newT R1 r hz.2⟩
  · exact k1.elim
theorem de_lst (h : DA X B W es n) : DE X B W (.List es pos) (dLst n) := by
  refine ⟨peImp (pe_lst h.run) fun σ H Q ⟨ρ, G, env, μ, R, k⟩ => ⟨ρ, G, env, μ, R, (KE.bind (f := fLst) k).imp fun ρ1 G1 H1 μ1 ds s p R1 k1 vs hvs => ?_⟩⟩
  unfold fLst at k1
  split at k1
  · rename_i hz
    have r := hvs.reps hz.1
    exact ⟨by rw [r.length]; exact szl_line hz.2, k1.newL R1 r hz.2⟩
  · exact k1.elim
end
end
end Dv

/-! DvD: what is walked: lists, tuples, ranges, texts; zip and enumerate of any mix. -/
namespace Dv
open PySem PySem.Spec PyProof.Rows L2
/-! ### sources: a list or a tuple -/
def atS : Bool → Heap → Addr → Addr → Nat → Prop
  | true, h, it, a, i => h.IsListIter it a i
  | false, h, it, a, i => h.IsTupleIter it a i
def hasS : Bool → Heap → Addr → Array Value → Prop
  | true, h, a, xs => h.IsList a xs
  | false, h, a, xs => h.IsTuple a xs
def SqS (K : PySem.W.Frag) (H : Hp) : Bool → Addr → List V → Prop
  | true, a, xs => SqL K H a xs
  | false, a, xs => SqT K H a xs
theorem drawsS {prog : Program} {w : World} {A : Around} (hh : A.handled = none) (k : Bool) (it a : Addr) (hne : a ≠ it) (items : Array Value) :
    Draws prog w A it [it, a] items.size (fun i v => items[i]? = some v) (fun i h => atS k h it a i ∧ hasS k h a items) := by
  cases k with
  | true => exact Draws.list hh it a hne items
  | false => exact Draws.tuple hh it a hne items
def objS (k : Bool) (a : Addr) : Obj := { cls := .type (if k then "list_iterator" else "tuple_iterator"), data := .fields #[.ref a, .int 0 0] }
theorem beginsS (k : Bool) (a : Addr) (items : Array Value) : Begins (.ref a) (objS k a) fun h => hasS k h a items := by
  cases k with
  | true => exact begins_list a items
  | false => exact begins_tuple a items
section
variable {X : Cx} {pins : List (Addr × Obj)} {σ : L2.St} {H : Hp} {s : Shared} {a : Addr} {xs ys : List V}
theorem hasS_of (I : Inv X pins σ H s) {k : Bool} (h : SqS X.K H k a xs) : ∃ its : List Value, Vals xs its ∧ hasS k s.heap a its.toArray ∧ xs.length ≤ sizeLine := by
  cases k with
  | true =>
    obtain ⟨its, r, p, z⟩ := I.list h
    exact ⟨its, r, p.isList, z⟩
  | false =>
    obtain ⟨its, r, p, z⟩ := I.tuple h
    exact ⟨its, r, p, z⟩
theorem sqS_inj (I : Inv X pins σ H s) {k : Bool} (h : SqS X.K H k a xs) (h' : SqS X.K H k a ys) : xs = ys := by
  cases k with
  | true => exact I.list_inj h h'
  | false => exact I.tuple_inj h h'
end
theorem atS_at {k : Bool} {h h' : Heap} {it a : Addr} {i : Nat} (x : atS k h it a i) (e : ∀ o, h.get? it = some o → h'.get? it = some o) : atS k h' it a i := by
  cases k with
  | true => exact Heap.IsListIter.at x e
  | false => exact Heap.IsTupleIter.at x e
theorem atS_obj {k : Bool} {h : Heap} {it a : Addr} {i : Nat} (x : atS k h it a i) : ∃ o, h.get? it = some o ∧ ∀ v, o.data ≠ .cell v := by
  cases k with
  | true =>
    obtain ⟨o, e, _, d⟩ := x
    exact ⟨o, e, fun v z => by rw [d] at z; cases z⟩
  | false =>
    obtain ⟨o, e, _, d⟩ := x
    exact ⟨o, e, fun v z => by rw [d] at z; cases z⟩
theorem atS_new {k : Bool} {h : Heap} {it a : Addr} (e : h.get? it = some (objS k a)) : atS k h it a 0 := by
  cases k with
  | true => exact ⟨_, e, rfl, rfl⟩
  | false => exact ⟨_, e, rfl, rfl⟩
/-! ### zip of two sources -/
def ItZ (K : PySem.W.Frag) (k1 k2 : Bool) (a b : Addr) : It :=
  ⟨fun i H => ∃ (xs ys : List V) (x y : V), SqS K H k1 a xs ∧ SqS K H k2 b ys ∧ xs[i]? = some x ∧ ys[i]? = some y,
    fun i H v H' => ∃ T x y, v = .ref T ∧ H T = none ∧ H' = upd H T (.tup [x, y]) ∧ (∀ xs, SqS K H k1 a xs → xs[i]? = some x) ∧ ∀ ys, SqS K H k2 b ys → ys[i]? = some y,
    fun i H => ∃ xs ys : List V, SqS K H k1 a xs ∧ SqS K H k2 b ys ∧ min xs.length ys.length = i⟩
/-- a pair that is told at T -/
theorem pair_new {P : Program} {w : World} {H : Hp} {h : Heap} {T : Addr} {x y : V} {u v : Value} (hT : h.IsTuple T #[u, v]) (ru : RelV x u) (rv : RelV y v) : ObjOk P w (upd H T (.tup [x, y])) h T (.tup [x, y]) :=
  ⟨by show 2 ≤ sizeLine; decide, [u, v], .cons ru (.cons rv .nil), hT⟩
theorem turnZ {P : Program} {w : World} {K : PySem.W.Frag} {elts : List Expr} {kk : Nat} {tpos : Pos} {k1 k2 : Bool} {a b z TI TO i1 i2 : Addr} (D : ZipSep2 z TI TO i1 i2 [i1, a] [i2, b]) (n1 : a ≠ i1) (n2 : b ≠ i2) :
    Turn P w K (.Tuple elts kk tpos) (ItZ K k1 k2 a b) [z, TI, TO, i1, i2] z (fun i h => IsZip h z TI TO .none ∧ IsTupOf2 h TI (.ref i1) (.ref i2) ∧ (∃ x y, IsTupOf2 h TO x y) ∧ atS k1 h i1 a i ∧ atS k2 h i2 b i) where
  mem := by simp
  obj := fun i h st c hc => by
    obtain ⟨hz, hTI, ⟨x, y, hTO⟩, h1, h2⟩ := st
    have e' : c = z ∨ c = TI ∨ c = TO ∨ c = i1 ∨ c = i2 := by simpa using hc
    rcases e' with q | q | q | q | q
    · rw [q]; exact ⟨_, hz, fun v q => nomatch q⟩
    · rw [q]; exact ⟨_, hTI, fun v q => nomatch q⟩
    · rw [q]; exact ⟨_, hTO, fun v q => nomatch q⟩
    · rw [q]; exact atS_obj h1
    · rw [q]; exact atS_obj h2
  keep := fun i h h' st k => by
    obtain ⟨hz, hTI, ⟨x, y, hTO⟩, h1, h2⟩ := st
    exact ⟨k z (by simp) _ hz, k TI (by simp) _ hTI, ⟨x, y, k TO (by simp) _ hTO⟩, atS_at h1 fun o q => k i1 (by simp) o q, atS_at h2 fun o q => k i2 (by simp) o q⟩
  item := by
    intro X hP hw hK hc i pins s σ H E I hf st hg
    subst hP hw hK
    obtain ⟨hz, hTI, hTO, h1, h2⟩ := st
    obtain ⟨xs, ys, x, y, hqx, hqy, hx, hy⟩ := hg
    obtain ⟨its, rv, p, _⟩ := hasS_of I hqx
    obtain ⟨its2, rv2, p2, _⟩ := hasS_of I hqy
    have hh : X.A.in1.handled = none := I.ok.hd hc
    have l1 := rv.length
    have l2 := rv2.length
    have b1 := (List.getElem?_eq_some_iff.mp hx).1
    have b2 := (List.getElem?_eq_some_iff.mp hy).1
    refine (GoesN.zip2 (prog := X.prog) (w := X.w) (A := X.A) (elts := elts) (x1 := kk) (pos := tpos) D (drawsS hh k1 i1 a n1 its.toArray) (drawsS hh k2 i2 b n2 its2.toArray)).goes i s _ E (by simp only [List.size_toArray]; omega) ⟨hz, hTI, hTO, ⟨h1, p⟩, ⟨h2, p2⟩⟩ fun v h' tk hY st' hk _ => ?_
    obtain ⟨T, u, u2, rfl, hT, e1, e2, hTT⟩ := hY
    obtain ⟨z', TI', TO', ⟨h1', _⟩, ⟨h2', _⟩⟩ := st'
    have ru : RelV x u := by
      obtain ⟨u', q1, q2⟩ := rv.get hx
      have : its[i]? = some u := by simpa using e1
      rw [this] at q1; cases q1; exact q2
    have ru2 : RelV y u2 := by
      obtain ⟨u', q1, q2⟩ := rv2.get hy
      have : its2[i]? = some u2 := by simpa using e2
      rw [this] at q1; cases q1; exact q2
    have I1 : Inv X pins σ (upd H T (.tup [x, y])) { s with heap := h', toks := tk } :=
      Inv.turnedNew (ch := [z, TO, i1, i2]) I (fun c o hb q => hk c o hb q) (fun c hc => hf c (by simp at hc ⊢; rcases hc with q | q | q | q <;> simp [q])) hT (pair_new hTT ru ru2)
    refine ⟨.ref T, _, I1, rfl, ⟨T, x, y, rfl, I.hok.fresh hT, rfl, fun l hl => by rw [sqS_inj I hl hqx]; exact hx, fun l hl => by rw [sqS_inj I hl hqy]; exact hy⟩, ⟨z', TI', TO', h1', h2'⟩, fun c hcm => ?_⟩
    have hlt : c < s.heap.objs.size := by
      obtain ⟨o, e, _⟩ : ∃ o, s.heap.get? c = some o ∧ True := by
        have e' : c = z ∨ c = TI ∨ c = TO ∨ c = i1 ∨ c = i2 := by simpa using hcm
        obtain ⟨x0, y0, hTO⟩ := hTO
        rcases e' with q | q | q | q | q
        · rw [q]; exact ⟨_, hz, trivial⟩
        · rw [q]; exact ⟨_, hTI, trivial⟩
        · rw [q]; exact ⟨_, hTO, trivial⟩
        · rw [q]; obtain ⟨o, e, _⟩ := atS_obj h1; exact ⟨o, e, trivial⟩
        · rw [q]; obtain ⟨o, e, _⟩ := atS_obj h2; exact ⟨o, e, trivial⟩
      exact Heap.lt_size e
    rw [upd_ne (Nat.ne_of_lt (Nat.lt_of_lt_of_le hlt hT))]
    exact (hf c hcm).1
  done := by
    intro X hP hw hK hc i pins s σ H E I hf st hg
    subst hP hw hK
    obtain ⟨hz, hTI, hTO, h1, h2⟩ := st
    obtain ⟨xs, ys, hqx, hqy, hend⟩ := hg
    obtain ⟨its, rv, p, _⟩ := hasS_of I hqx
    obtain ⟨its2, rv2, p2, _⟩ := hasS_of I hqy
    have hh : X.A.in1.handled = none := I.ok.hd hc
    have l1 := rv.length
    have l2 := rv2.length
    have e : min its.toArray.size its2.toArray.size = i := by simp only [List.size_toArray]; omega
    subst e
    exact (GoesN.zip2 (prog := X.prog) (w := X.w) (A := X.A) (elts := elts) (x1 := kk) (pos := tpos) D (drawsS hh k1 i1 a n1 its.toArray) (drawsS hh k2 i2 b n2 its2.toArray)).stops s _ E ⟨hz, hTI, hTO, ⟨h1, p⟩, ⟨h2, p2⟩⟩ fun h' tk hk _ =>
      Inv.turnedL (ch := [z, TO, i1, i2]) I (fun c o hb q => hk c o hb q) (fun c hc => hf c (by simp at hc ⊢; rcases hc with q | q | q | q <;> simp [q]))
  self := fun A i s Q E st h => wpAny_pyIter_zip st.1 h
def iZipS (K : PySem.W.Frag) (ta : TA) : TI := fun σ H R => ta σ H fun vs H1 => ∃ (k1 k2 : Bool) (a b : Addr) (xs ys : List V), vs = [.ref a, .ref b] ∧ SqS K H1 k1 a xs ∧ SqS K H1 k2 b ys ∧ R (ItZ K k1 k2 a b) H1
theorem hasS_lt {k : Bool} {h : Heap} {a : Addr} {xs : Array Value} (x : hasS k h a xs) : a < h.objs.size := by
  cases k with
  | true => obtain ⟨o, e, _⟩ := x; exact Heap.lt_size e
  | false => obtain ⟨o, e, _⟩ := x; exact Heap.lt_size e
theorem pi_zipS {X : Cx} {e e2 : Expr} {ta : TA} {p pos tpos : Pos} {elts : List Expr} {kk : Nat} (hg : Gl X "zip") (hm : X.mg "zip" = none) (ha : PA X [e, e2] ta)
    (hs : starEach [e, e2] X.env = (false, eval e X.env) :: starEach [e2] X.env := by rfl) (hpl : (backTo pos (starEach [e2] X.env)).any (·.1) = false := by rfl) :
    PI X (.Tuple elts kk tpos) (.Call (.Name "zip" p) [e, e2] [] pos) (iZipS X.K ta) := by
  refine ⟨fun pins s σ H R I h => ?_⟩
  refine Call_ (ld_blt I hg hm PyProof.Rows.boot_zip (PyProof.Rows.callWith_type1 (thn (ha.run pos pins s σ H _ I h) fun us s1 ⟨vs, H1, I1, r1, q1⟩ => ?_) hs hpl))
  obtain ⟨k1, k2, a, b, xs, ys, ex, hqx, hqy, q⟩ := q1
  subst ex
  obtain ⟨u, u2, rfl, ru, ru2⟩ := vals2 r1
  cases ru
  cases ru2
  obtain ⟨its, rv, p1, _⟩ := hasS_of I1 hqx
  obtain ⟨its2, rv2, p2, _⟩ := hasS_of I1 hqy
  have la := hasS_lt p1
  have lb := hasS_lt p2
  refine zip_begins2 (beginsS k1 a its.toArray) (beginsS k2 b its2.toArray) p1 p2 fun h' hz hTI hTO h1 h2 hsz hk => ?_
  refine wpAny_pyIter_zip hz ?_
  have I2 : Inv X pins σ H1 { s1 with heap := h' } := I1.kept (t' := s1.toks) hk
  refine ⟨_, [s1.heap.objs.size + 4, s1.heap.objs.size + 2, s1.heap.objs.size + 3, s1.heap.objs.size, s1.heap.objs.size + 1], _, _, H1, rfl, I2, turnZ (k1 := k1) (k2 := k2) (zip_sep2 (fp1 := [a]) (fp2 := [b]) (by simpa using la) (by simpa using lb)) (Nat.ne_of_lt la) (Nat.ne_of_lt (Nat.lt_succ_of_lt lb)),
    ⟨hz, hTI, ⟨_, _, hTO⟩, atS_new h1, atS_new h2⟩, fun c hc => ?_, q⟩
  have hle : s1.heap.objs.size ≤ c := by
    simp only [List.mem_cons, List.not_mem_nil, or_false] at hc
    rcases hc with z | z | z | z | z <;> (rw [z]; first | exact Nat.le_refl _ | exact Nat.le_add_right _ _)
  exact I1.fpOk hle (I1.hok.fresh hle)
/-! ### enumerate of a source -/
def ItE (K : PySem.W.Frag) (k : Bool) (a : Addr) : It :=
  ⟨fun i H => ∃ (xs : List V) (x : V), SqS K H k a xs ∧ xs[i]? = some x,
    fun i H v H' => ∃ T x, v = .ref T ∧ H T = none ∧ H' = upd H T (.tup [.int (i : Nat), x]) ∧ ∀ xs, SqS K H k a xs → xs[i]? = some x,
    fun i H => ∃ xs : List V, SqS K H k a xs ∧ xs.length = i⟩
theorem turnE {P : Program} {w : World} {K : PySem.W.Frag} {elts : List Expr} {kk : Nat} {tpos : Pos} {k : Bool} {a e it : Addr} (n1 : a ≠ it) (hei : e ≠ it) (hea : e ≠ a) :
    Turn P w K (.Tuple elts kk tpos) (ItE K k a) [e, it] e (fun i h => (∃ old, IsEnum h e it (0 + ((i : Nat) : Int)) old) ∧ atS k h it a i) where
  mem := by simp
  obj := fun i h st c hc => by
    obtain ⟨⟨old, he⟩, h1⟩ := st
    have e' : c = e ∨ c = it := by simpa using hc
    rcases e' with q | q
    · rw [q]; exact ⟨_, he, fun v q => nomatch q⟩
    · rw [q]; exact atS_obj h1
  keep := fun i h h' st k => by
    obtain ⟨⟨old, he⟩, h1⟩ := st
    exact ⟨⟨old, k e (by simp) _ he⟩, atS_at h1 fun o q => k it (by simp) o q⟩
  item := by
    intro X hP hw hK hc i pins s σ H E I hf st hg
    subst hP hw hK
    obtain ⟨he, h1⟩ := st
    obtain ⟨xs, x, hqx, hx⟩ := hg
    obtain ⟨its, rv, p, _⟩ := hasS_of I hqx
    have hh : X.A.in1.handled = none := I.ok.hd hc
    have l1 := rv.length
    have b1 := (List.getElem?_eq_some_iff.mp hx).1
    refine (GoesN.enumFrom (prog := X.prog) (w := X.w) (A := X.A) (elts := elts) (x1 := kk) (pos := tpos) 0 (drawsS hh k it a n1 its.toArray) e hei (by simp [hei, hea]) (by simp)).goes i s _ E (by simp only [List.size_toArray]; omega) ⟨he, h1, p⟩ fun v h' tk hY st' hk _ => ?_
    obtain ⟨T, t, u, rfl, hT, e1, hTT⟩ := hY
    obtain ⟨he', h1', _⟩ := st'
    have ru : RelV x u := by
      obtain ⟨u', q1, q2⟩ := rv.get hx
      have : its[i]? = some u := by simpa using e1
      rw [this] at q1; cases q1; exact q2
    have I1 : Inv X pins σ (upd H T (.tup [.int (i : Nat), x])) { s with heap := h', toks := tk } :=
      Inv.turnedNew (ch := [e, it]) I (fun c o hb q => hk c o hb q) hf hT (pair_new hTT ⟨t, by rw [Int.zero_add]⟩ ru)
    refine ⟨.ref T, _, I1, rfl, ⟨T, x, rfl, I.hok.fresh hT, rfl, fun l hl => by rw [sqS_inj I hl hqx]; exact hx⟩, ⟨he', h1'⟩, fun c hcm => ?_⟩
    have hlt : c < s.heap.objs.size := by
      obtain ⟨o, e, _⟩ : ∃ o, s.heap.get? c = some o ∧ True := by
        have e' : c = e ∨ c = it := by simpa using hcm
        obtain ⟨old, he⟩ := he
        rcases e' with q | q
        · rw [q]; exact ⟨_, he, trivial⟩
        · rw [q]; obtain ⟨o, e, _⟩ := atS_obj h1; exact ⟨o, e, trivial⟩
      exact Heap.lt_size e
    rw [upd_ne (Nat.ne_of_lt (Nat.lt_of_lt_of_le hlt hT))]
    exact (hf c hcm).1
  done := by
    intro X hP hw hK hc i pins s σ H E I hf st hg
    subst hP hw hK
    obtain ⟨he, h1⟩ := st
    obtain ⟨xs, hqx, hend⟩ := hg
    obtain ⟨its, rv, p, _⟩ := hasS_of I hqx
    have hh : X.A.in1.handled = none := I.ok.hd hc
    have l1 := rv.length
    have e : its.toArray.size = i := by simp only [List.size_toArray]; omega
    subst e
    exact (GoesN.enumFrom (prog := X.prog) (w := X.w) (A := X.A) (elts := elts) (x1 := kk) (pos := tpos) 0 (drawsS hh k it a n1 its.toArray) e hei (by simp [hei, hea]) (by simp)).stops s _ E ⟨he, h1, p⟩ fun h' tk hk _ =>
      Inv.turnedL (ch := [e, it]) I (fun c o hb q => hk c o hb q) hf
  self := fun A i s Q E st h => by
    obtain ⟨⟨old, he⟩, _⟩ := st
    exact wpAny_pyIter_enum he h
/-- enumerate(v), v by how its iterator begins -/
theorem meets_enum1 {v : Value} {o : Obj} {H : Heap → Prop} (B : Begins v o H) :
    Meets (Builtin.«enumerate.__new__» ⟨[.type "enumerate", v], []⟩) (fun _ R s => H s.heap ∧
      R (.ok (.ret (.ref (s.heap.push o).objs.size))) { s with heap := (s.heap.push o).push { cls := .type "enumerate", data := .fields #[.none, .bool false, .ref s.heap.objs.size, rawInt 0, .none, .none] } }) :=
  .of_wp fun prog w A R s h => by
    obtain ⟨hp, g, d, tk, os⟩ := s
    obtain ⟨h1, h⟩ := h
    have hsub := sub_enumerate
    have q1 : ∀ {A' : Around} {E' : Value → Shared → Prop} {Q' : Value → Shared → Prop}, Q' (.ref hp.objs.size) ⟨hp.push o, g, d, tk, os⟩ → wpAny (model prog w) A' (pyIter v) Q' E' ⟨hp, g, d, tk, os⟩ :=
      fun q => B.iter prog w _ _ ⟨hp, g, d, tk, os⟩ _ h1 q
    wp_walk using q1
    refine wpAny_stack_any fun st' => wpAny_pure ?_
    split
    · rename_i c' _ _ _ _ _
      cases (c' == Value.type "enumerate") <;> (wp_walk using q1; exact ⟨_, rfl, h⟩)
    · wp_walk using q1
      exact ⟨_, rfl, h⟩
theorem enum_begins1 {prog : Program} {w : World} {A : Around} {E : Value → Shared → Prop} {s : Shared} {v : Value} {o : Obj} {H : Heap → Prop} {Q : Value → Shared → Prop} (B : Begins v o H) (h1 : H s.heap)
    (h : ∀ h', IsEnum h' (s.heap.objs.size + 1) s.heap.objs.size 0 .none → h'.get? s.heap.objs.size = some o → h'.objs.size = s.heap.objs.size + 2 →
      (∀ b' o', s.heap.get? b' = some o' → h'.get? b' = some o') → Q (.ref (s.heap.objs.size + 1)) { s with heap := h' }) :
    wpAny (model prog w) A (call (.type "enumerate") [v]) Q E s := by
  refine callType_new F.called_enumerate (by decide) (F.typeCall_enumerate_1 _) (F.newCall_enumerate_1 _) (fun obj' => F.args_object_init_2 obj' _) F.entry_enumerate_new (meets_enum1 B) ⟨h1, ?_⟩
  have hz : (s.heap.push o).objs.size = s.heap.objs.size + 1 := Heap.size_push ..
  show _ ∧ _
  rw [hz]
  have he : IsEnum ((s.heap.push o).push { cls := .type "enumerate", data := .fields #[.none, .bool false, .ref s.heap.objs.size, rawInt 0, .none, .none] }) (s.heap.objs.size + 1) s.heap.objs.size 0 .none := by
    have e1 := Heap.get?_push_size (s.heap.push o) (o := { cls := .type "enumerate", data := .fields #[.none, .bool false, .ref s.heap.objs.size, rawInt 0, .none, .none] }) rfl
    rw [hz] at e1; exact e1
  exact ⟨⟨_, he, rfl⟩, h _ he (Heap.get?_push_of_some _ (Heap.get?_push_size _ B.free)) (by rw [Heap.size_push, hz]) fun b' o' x' => Heap.get?_push_of_some _ (Heap.get?_push_of_some _ x')⟩
def iEnumS (K : PySem.W.Frag) (ta : TA) : TI := fun σ H R => ta σ H fun vs H1 => ∃ (k : Bool) (a : Addr) (xs : List V), vs = [.ref a] ∧ SqS K H1 k a xs ∧ R (ItE K k a) H1
theorem pi_enumS {X : Cx} {e : Expr} {ta : TA} {p pos tpos : Pos} {elts : List Expr} {kk : Nat} (hg : Gl X "enumerate") (hm : X.mg "enumerate" = none) (ha : PA X [e] ta) (hs : starEach [e] X.env = [(false, eval e X.env)] := by rfl) :
    PI X (.Tuple elts kk tpos) (.Call (.Name "enumerate" p) [e] [] pos) (iEnumS X.K ta) := by
  refine ⟨fun pins s σ H R I h => ?_⟩
  refine Call_ (ld_blt I hg hm boot_enumerate (PyProof.Rows.callWith_type1 (thn (ha.run pos pins s σ H _ I h) fun us s1 ⟨vs, H1, I1, r1, q1⟩ => ?_) hs rfl))
  obtain ⟨k, a, xs, ex, hqx, q⟩ := q1
  subst ex
  obtain ⟨u, rfl, ru⟩ := vals1 r1
  cases ru
  obtain ⟨its, rv, p1, _⟩ := hasS_of I1 hqx
  have la := hasS_lt p1
  refine enum_begins1 (beginsS k a its.toArray) p1 fun h' he h1 hsz hk => ?_
  refine wpAny_pyIter_enum he ?_
  have I2 : Inv X pins σ H1 { s1 with heap := h' } := I1.kept (t' := s1.toks) hk
  refine ⟨_, [s1.heap.objs.size + 1, s1.heap.objs.size], _, _, H1, rfl, I2, turnE (k := k) (a := a) (e := s1.heap.objs.size + 1) (it := s1.heap.objs.size) (Nat.ne_of_lt la) (Nat.succ_ne_self _) (Nat.ne_of_gt (Nat.lt_succ_of_lt la)), ⟨⟨_, he⟩, atS_new h1⟩, fun c hc => ?_, q⟩
  have hle : s1.heap.objs.size ≤ c := by
    simp only [List.mem_cons, List.not_mem_nil, or_false] at hc
    rcases hc with z | z <;> (rw [z]; first | exact Nat.le_refl _ | exact Nat.le_add_right _ _)
  exact I1.fpOk hle (I1.hok.fresh hle)
end Dv

/-! DvE: slots set and forgotten; walks by deep values; comprehensions. -/
namespace Dv
open PySem PySem.Spec PyProof.Rows L2
section
variable {T : Tx} {B : Bs} {ρ ρ' : List Addr} {G G' H H' : Hp} {σ σ2 : L2.St} {env env2 : DEnv} {μ μ' : Mu}
/-! ### slots -/
def wipeD (env : DEnv) : List Nat → DEnv
  | [] => env
  | v :: vs => (wipeD env vs).set v .no
def noOwn (env : DEnv) (vs : List Nat) : Bool := vs.all fun i => match env[i]? with
  | some (.own _) => false
  | _ => true
theorem own_of_set {env : DEnv} {i j : Nat} {s : SV} {l : List D} (hs : ∀ l, s ≠ .own l) (h : (env.set i s)[j]? = some (.own l)) : j ≠ i ∧ env[j]? = some (.own l) := by
  by_cases e : i = j
  · subst e
    by_cases hi : i < env.length
    · rw [List.getElem?_set_self hi] at h
      exact absurd (Option.some.inj h) (hs l)
    · rw [List.getElem?_eq_none (by simpa using Nat.le_of_not_lt hi)] at h; cases h
  · rw [List.getElem?_set_ne e] at h
    exact ⟨fun q => e q.symm, h⟩
/-- a slot is stored -/
theorem RD.setG (R : RD T B ρ G H σ env μ) {i : Nat} {x : Option V} {s : SV} (hs : ∀ l, s ≠ .own l) (hx : ∀ d, s = .v d → ∃ v, x = some v ∧ Rep T ρ G v d) : RD T B ρ G H (σ.set i x) (env.set i s) μ := by
  have sne : ∀ {j : Nat}, j ≠ i → (σ.set i x)[j]? = σ[j]? := fun {j} h => List.getElem?_set_ne (Ne.symm h)
  refine ⟨R.gh, R.ext, by simp [R.len], fun j t ht => ?_, fun j k l l' p h1 h2 h3 h4 => ?_, R.st, fun q hq => ?_, R.xn⟩
  · by_cases e : i = j
    · subst e
      by_cases hi : i < env.length
      · rw [List.getElem?_set_self hi] at ht
        cases ht
        have hi2 : i < σ.length := by rw [← R.len]; exact hi
        cases s with
        | no => trivial
        | v d =>
          obtain ⟨v, e1, e2⟩ := hx d rfl
          exact ⟨v, by rw [List.getElem?_set_self hi2, e1], e2⟩
        | own l => exact absurd rfl (hs l)
      · rw [List.getElem?_eq_none (by simpa using Nat.le_of_not_lt hi)] at ht; cases ht
    · rw [List.getElem?_set_ne e] at ht
      have h := R.slot j t ht
      cases t with
      | no => trivial
      | v d => unfold SlR at h ⊢; rw [sne (fun q => e q.symm)]; exact h
      | own l => unfold SlR at h ⊢; rw [sne (fun q => e q.symm)]; exact h
  · obtain ⟨n1, o1⟩ := own_of_set hs h1
    obtain ⟨n2, o2⟩ := own_of_set hs h2
    rw [sne n1] at h3
    rw [sne n2] at h4
    exact R.own j k l l' p o1 o2 h3 h4
  · obtain ⟨e1, e2, e3, e4, e5⟩ := R.xo q hq
    refine ⟨e1, e2, e3, e4, fun j l' h1 h2 => ?_⟩
    obtain ⟨n1, o1⟩ := own_of_set hs h1
    rw [sne n1] at h2
    exact e5 j l' o1 h2
theorem RD.set (R : RD T B ρ G H σ env μ) {i : Nat} {v : V} {d : D} (r : Rep T ρ G v d) : RD T B ρ G H (σ.set i (some v)) (env.set i (.v d)) μ :=
  R.setG (fun _ => by simp) fun d' e => by cases e; exact ⟨v, rfl, r⟩
theorem RD.wipe (R : RD T B ρ G H σ env μ) : ∀ vs : List Nat, RD T B ρ G H (wipe σ vs) (wipeD env vs) μ
  | [] => R
  | i :: vs => RD.setG (RD.wipe R vs) (fun _ => by simp) fun d' e => by cases e
theorem wipeD_out {i : Nat} : ∀ {vs : List Nat}, i ∉ vs → (wipeD env vs)[i]? = env[i]?
  | [], _ => rfl
  | v :: vs, h => by
    have h1 : v ≠ i := fun e => h (by rw [e]; exact List.mem_cons_self)
    have h2 : i ∉ vs := fun m => h (List.mem_cons_of_mem _ m)
    unfold wipeD
    rw [List.getElem?_set_ne h1]
    exact wipeD_out h2
/-- back from a block -/
theorem RD.back (R : RD T B ρ G H σ env μ) (R' : RD T B ρ' G' H' σ2 env2 μ') (s : Same G G') (p : Pre ρ ρ') {vs : List Nat} (no : noOwn env vs = true) (he : ∀ i, i ∉ vs → env2[i]? = env[i]?) (hσ : ∀ i, i ∉ vs → σ2[i]? = σ[i]?) :
    RD T B ρ' G' H' σ env μ' := by
  have nv : ∀ {i : Nat} {l : List D}, env[i]? = some (.own l) → i ∉ vs := fun {i l} h m => by
    have q := List.all_eq_true.mp no i m
    rw [h] at q; cases q
  refine ⟨R'.gh, R'.ext, R.len, fun i t ht => ?_, fun i j l l' q h1 h2 h3 h4 => ?_, R'.st, fun q hq => ?_, R'.xn⟩
  · cases t with
    | no => trivial
    | v d =>
      obtain ⟨v, e1, e2⟩ := R.slot i _ ht
      exact ⟨v, e1, e2.mono s p⟩
    | own l =>
      have m := nv ht
      have h := R'.slot i (.own l) (by rw [he i m]; exact ht)
      unfold SlR at h ⊢
      rw [← hσ i m]; exact h
  · have m1 := nv h1
    have m2 := nv h2
    exact R'.own i j l l' q (by rw [he i m1]; exact h1) (by rw [he j m2]; exact h2) (by rw [hσ i m1]; exact h3) (by rw [hσ j m2]; exact h4)
  · obtain ⟨e1, e2, e3, e4, e5⟩ := R'.xo q hq
    refine ⟨e1, e2, e3, e4, fun i l' h1 h2 => ?_⟩
    have m := nv h1
    exact e5 i l' (by rw [he i m]; exact h1) (by rw [hσ i m]; exact h2)
end

/-! ### walks -/
structure WalkD (T : Tx) (J : It) (ρ : List Addr) (G : Hp) (ds : List D) : Prop where
  sz : szl ds.length
  go : ∀ (i : Nat) d, ds[i]? = some d → ∀ ρ' G' H', Same G G' → Pre ρ ρ' → Same G' H' → J.go i H' ∧ ∀ x H'', J.yld i H' x H'' →
    (H'' = H' ∧ Rep T ρ' G' x d) ∨ ∃ p vs l, H' p = none ∧ H'' = upd H' p (.tup vs) ∧ x = .ref p ∧ d = .tup l ∧ Reps T ρ' G' vs l ∧ szl l.length
  stop : ∀ ρ' G' H', Same G G' → Pre ρ ρ' → Same G' H' → J.stop ds.length H'
def rdI (T : Tx) (B : Bs) (W : WX) (m : DEnv → Mu → Res (List D)) : TI := fun σ H R => ∃ ρ G env μ, RD T B ρ G H σ env μ ∧ KE T B σ env W (fun ρ' G' H' _ ds => ∀ J, WalkD T J ρ' G' ds → R J H') ρ G (m env μ)
structure DI (X : Cx) (B : Bs) (W : WX) (tg iter : Expr) (m : DEnv → Mu → Res (List D)) : Prop where
  run : PI X tg iter (rdI (tx X) B W m)
theorem piImp {X : Cx} {tg iter : Expr} {w w' : TI} (h : PI X tg iter w) (i : ∀ σ H R, w' σ H R → w σ H R) : PI X tg iter w' := ⟨fun pins s σ H R I q => h.run pins s σ H R I (i σ H R q)⟩
theorem piOr {X : Cx} {tg iter : Expr} {w w' : TI} (h : PI X tg iter w) (h' : PI X tg iter w') : PI X tg iter (fun σ H R => w σ H R ∨ w' σ H R) := ⟨fun pins s σ H R I q => q.elim (h.run pins s σ H R I) (h'.run pins s σ H R I)⟩
section
variable {X : Cx} {B : Bs} {W : WX} {T : Tx} {ρ : List Addr} {G H : Hp}
theorem walk_list {K : PySem.W.Frag} {a : Addr} {vs : List V} {l : List D} (hg : G a = some (.lst vs)) (z : szl l.length) (r : Reps T ρ G vs l) : WalkD T (Itl K a) ρ G l where
  sz := z
  go := fun i d hd ρ' G' H' s p gh => by
    obtain ⟨v, e, q⟩ := r.get hd
    have h1 : SqL K H' a vs := .of (gh _ _ (s _ _ hg))
    exact ⟨⟨vs, v, h1, e⟩, fun x H'' ⟨e1, e2⟩ => .inl ⟨e1, by have := e2 vs h1; rw [e] at this; cases this; exact q.mono s p⟩⟩
  stop := fun ρ' G' H' s p gh => ⟨vs, .of (gh _ _ (s _ _ hg)), by rw [r.length]; exact Nat.le_refl _⟩
theorem walk_tup {a : Addr} {vs : List V} {l : List D} (hg : SqG T.K G a vs) (z : szl l.length) (r : Reps T ρ G vs l) : WalkD T (Itt T.K a) ρ G l where
  sz := z
  go := fun i d hd ρ' G' H' s p gh => by
    obtain ⟨v, e, q⟩ := r.get hd
    have h1 : SqT T.K H' a vs := (sqG_mono gh (sqG_mono s hg)).sq
    exact ⟨⟨vs, v, h1, e⟩, fun x H'' ⟨e1, e2⟩ => .inl ⟨e1, by have := e2 vs h1; rw [e] at this; cases this; exact q.mono s p⟩⟩
  stop := fun ρ' G' H' s p gh => ⟨vs, (sqG_mono gh (sqG_mono s hg)).sq, by rw [r.length]; exact Nat.le_refl _⟩
def signs (z : Str) : List D := z.cps.toList.map fun c => .str ⟨#[c]⟩
theorem walk_str {z : Str} (hz : szl z.cps.size) : WalkD T (Its z) ρ G (signs z) where
  sz := by simp [signs]; exact hz
  go := fun i d hd ρ' G' H' s p gh => by
    unfold signs at hd
    rw [List.getElem?_map] at hd
    cases e : z.cps.toList[i]? with
    | none => rw [e] at hd; cases hd
    | some c =>
      rw [e] at hd
      cases hd
      have e' : z.cps[i]? = some c := by simpa using e
      refine ⟨?_, fun x H'' ⟨e1, c', e2, e3⟩ => .inl ⟨e1, ?_⟩⟩
      · exact (Array.getElem?_eq_some_iff.mp e').1
      · rw [e'] at e2; cases e2; rw [e3]; exact rep_str
  stop := fun ρ' G' H' s p gh => by show z.cps.size ≤ _; simp [signs]
def fIter : D → Mu → Res (List D)
  | .tup l, μ => ret l μ
  | .lst l, μ => ret l μ
  | .new l, μ => ret l μ
  | .str z, μ => if szl z.cps.size then ret (signs z) μ else none
  | _, _ => none
def dIter (m : DEx) : DEnv → Mu → Res (List D) := fun env μ => bindR (m env μ) fIter
theorem di_seq {tg e : Expr} {m : DEx} (h : DE X B W e m) : DI X B W tg e (dIter m) := by
  refine ⟨piImp (piOr (pi_list h.run) (piOr (pi_tup h.run) (pi_str h.run))) fun σ H R ⟨ρ, G, env, μ, R0, k⟩ => ?_⟩
  cases hm : m env μ with
  | none => unfold dIter at k; rw [hm] at k; exact k.elim
  | some q =>
    obtain ⟨o, μ1⟩ := q
    cases o with
    | exc x =>
      refine .inl ⟨ρ, G, env, μ, R0, ?_⟩
      unfold dIter at k
      rw [hm] at k ⊢
      exact k
    | val d =>
      have k : KE (tx X) B σ env W (fun ρ' G' H' _ ds => ∀ J, WalkD (tx X) J ρ' G' ds → R J H') ρ G (bindR (m env μ) fIter) := k
      rw [hm] at k
      cases d with
      | tup l =>
        refine .inr (.inl ⟨ρ, G, env, μ, R0, ?_⟩)
        rw [hm]
        intro ρ' G' H' s p R1 v hv
        obtain ⟨a, vs, rfl, q, z, r⟩ := tup_inv (σ := σ) (env := env) hv
        exact ⟨a, rfl, ⟨vs, (sqG_mono R1.gh q).sq⟩, k ρ' G' H' s p R1 _ (walk_tup q z r)⟩
      | lst l =>
        refine .inl ⟨ρ, G, env, μ, R0, ?_⟩
        rw [hm]
        intro ρ' G' H' s p R1 v hv
        obtain ⟨a, vs, rfl, q, z, r⟩ := lst_inv (σ := σ) (env := env) hv
        exact ⟨a, rfl, ⟨vs, .of (R1.gh _ _ q)⟩, k ρ' G' H' s p R1 _ (walk_list q z r)⟩
      | new l =>
        refine .inl ⟨ρ, G, env, μ, R0, ?_⟩
        rw [hm]
        intro ρ' G' H' s p R1 v hv
        obtain ⟨G2, s2, R2, h2⟩ := hv.hold R1
        obtain ⟨a, vs, rfl, q, z, r⟩ := lst_inv h2
        exact ⟨a, rfl, ⟨vs, .of (R2.gh _ _ q)⟩, k ρ' G2 H' (s.trans s2) p R2 _ (walk_list q z r)⟩
      | str z =>
        refine .inr (.inr ⟨ρ, G, env, μ, R0, ?_⟩)
        rw [hm]
        intro ρ' G' H' s p R1 v hv
        have e := str_inv (T := tx X) (ρ := ρ') (G := G') (σ := σ) (env := env) hv
        unfold bindR fIter at k
        simp only at k
        split at k
        · rename_i hz
          exact ⟨z, e, k ρ' G' H' s p R1 _ (walk_str hz)⟩
        · exact k.elim
      | _ => exact k.elim
/-! ### range -/
/-- (by natAbs: a kernel that tries an addition of a written number to an unknown one counts it down) -/
def small62 (i : Int) : Bool := decide (i.natAbs < 4611686018427387904)
def rangeD (lo hi : Int) : List D := (List.range (hi - lo).toNat).map fun (i : Nat) => .int (lo + i)
def fRange1 : List D → Mu → Res (List D)
  | [.int j], μ => if small62 j = true ∧ szl (j - 0).toNat then ret (rangeD 0 j) μ else none
  | _, _ => none
def fRange2 : List D → Mu → Res (List D)
  | [.int i, .int j], μ => if small62 i = true ∧ small62 j = true ∧ szl (j - i).toNat then ret (rangeD i j) μ else none
  | _, _ => none
theorem rangeD_len (lo hi : Int) : (rangeD lo hi).length = (hi - lo).toNat := by simp [rangeD]
theorem walk_range {lo hi : Int} (z : szl (hi - lo).toNat) : WalkD T (Itr lo (hi - lo).toNat) ρ G (rangeD lo hi) where
  sz := by rw [rangeD_len]; exact z
  go := fun i d hd ρ' G' H' s p gh => by
    unfold rangeD at hd
    rw [List.getElem?_map] at hd
    by_cases hi' : i < (hi - lo).toNat
    · rw [List.getElem?_range hi'] at hd
      cases hd
      exact ⟨hi', fun x H'' ⟨e1, e2⟩ => .inl ⟨e1, by rw [e2]; exact rep_int⟩⟩
    · rw [List.getElem?_eq_none (by simpa using hi')] at hd; cases hd
  stop := fun ρ' G' H' s p gh => by show (hi - lo).toNat ≤ _; rw [rangeD_len]; exact Nat.le_refl _
theorem hreps1 {T : Tx} {ρ : List Addr} {G : Hp} {σ : L2.St} {env : DEnv} {vs : List V} {d : D} (h : HReps T ρ G σ env vs [d]) : ∃ v, vs = [v] ∧ HeldR T ρ G σ env v d := by
  cases h with
  | cons a b => cases b; exact ⟨_, rfl, a⟩
theorem hreps2 {T : Tx} {ρ : List Addr} {G : Hp} {σ : L2.St} {env : DEnv} {vs : List V} {d e : D} (h : HReps T ρ G σ env vs [d, e]) : ∃ v u, vs = [v, u] ∧ HeldR T ρ G σ env v d ∧ HeldR T ρ G σ env u e := by
  cases h with
  | cons a b =>
    obtain ⟨u, rfl, q⟩ := hreps1 b
    exact ⟨_, _, rfl, a, q⟩
theorem small62_ok {i : Int} (h : small62 i = true) : -(2 ^ 62) ≤ i ∧ i < 2 ^ 62 := by
  unfold small62 at h
  simp only [decide_eq_true_eq] at h
  omega
def dArg (f : List D → Mu → Res (List D)) (n : DEnv → Mu → Res (List D)) : DEnv → Mu → Res (List D) := fun env μ => bindR (n env μ) f
theorem di_range1 {tg a : Expr} {p pos : Pos} {n : DEnv → Mu → Res (List D)} (hg : Gl X "range") (hm : X.mg "range" = none) (ha : DA X B W [a] n) (hs : starEach [a] X.env = [(false, eval a X.env)] := by rfl) : DI X B W tg (.Call (.Name "range" p) [a] [] pos) (dArg fRange1 n) := by
  refine ⟨piImp (pi_range1 hg hm ha.run hs) fun σ H R ⟨ρ, G, env, μ, R0, k⟩ => ⟨ρ, G, env, μ, R0, (KE.bind (f := fRange1) k).imp fun ρ1 G1 H1 μ1 ds s p R1 k1 vs hvs => ?_⟩⟩
  unfold fRange1 at k1
  split at k1
  · split at k1
    · rename_i j hz
      obtain ⟨v, rfl, hv⟩ := hreps1 hvs
      have b := small62_ok hz.1
      refine ⟨j, by rw [int_inv hv], b.1, b.2, ?_⟩
      have e : j.toNat = (j - 0).toNat := by omega
      rw [e]
      exact k1 ρ1 G1 H1 (fun _ _ h => h) (.refl _) R1 _ (walk_range hz.2)
    · exact k1.elim
  · exact k1.elim
theorem di_range2 {tg a b : Expr} {p pos : Pos} {n : DEnv → Mu → Res (List D)} (hg : Gl X "range") (hm : X.mg "range" = none) (ha : DA X B W [a, b] n) (hs : starEach [a, b] X.env = [(false, eval a X.env), (false, eval b X.env)] := by rfl) (hs2 : starEach [b] X.env = [(false, eval b X.env)] := by rfl) :
    DI X B W tg (.Call (.Name "range" p) [a, b] [] pos) (dArg fRange2 n) := by
  refine ⟨piImp (pi_range2 hg hm ha.run hs hs2) fun σ H R ⟨ρ, G, env, μ, R0, k⟩ => ⟨ρ, G, env, μ, R0, (KE.bind (f := fRange2) k).imp fun ρ1 G1 H1 μ1 ds s p R1 k1 vs hvs => ?_⟩⟩
  unfold fRange2 at k1
  split at k1
  · split at k1
    · rename_i i j hz
      obtain ⟨v, u, rfl, hv, hu⟩ := hreps2 hvs
      have b1 := small62_ok hz.1
      have b2 := small62_ok hz.2.1
      refine ⟨i, j, by rw [int_inv hv, int_inv hu], ⟨b1.1, b1.2, b2.1, b2.2⟩, ?_⟩
      exact k1 ρ1 G1 H1 (fun _ _ h => h) (.refl _) R1 _ (walk_range hz.2.2)
    · exact k1.elim
  · exact k1.elim
/-! ### zip, enumerate -/
/-- the items of a list or a tuple that stands -/
def seqD : D → Option (List D)
  | .tup l => some l
  | .lst l => some l
  | _ => none
theorem seqD_inv {T : Tx} {B : Bs} {ρ : List Addr} {G H : Hp} {σ : L2.St} {env : DEnv} {μ : Mu} {x : V} {d : D} {l : List D} (R : RD T B ρ G H σ env μ) (h : HeldR T ρ G σ env x d) (e : seqD d = some l) :
    ∃ k a vs, x = .ref a ∧ (∀ G' H', Same G G' → Same G' H' → SqS T.K H' k a vs) ∧ szl l.length ∧ Reps T ρ G vs l := by
  cases d with
  | tup l' =>
    cases e
    obtain ⟨a, vs, q, g, z, r⟩ := tup_inv h
    exact ⟨false, a, vs, q, fun G' H' s gh => (sqG_mono gh (sqG_mono s g)).sq, z, r⟩
  | lst l' =>
    cases e
    obtain ⟨a, vs, q, g, z, r⟩ := lst_inv h
    exact ⟨true, a, vs, q, fun G' H' s gh => .of (gh _ _ (s _ _ g)), z, r⟩
  | _ => cases e
def pairD (a b : D) : D := .tup [a, b]
def fZip : List D → Mu → Res (List D)
  | [a, b], μ => match seqD a, seqD b with
    | some l, some m => ret (List.zipWith pairD l m) μ
    | _, _ => none
  | _, _ => none
def enumD : Nat → List D → List D
  | _, [] => []
  | i, d :: ds => pairD (.int i) d :: enumD (i + 1) ds
def fEnum : List D → Mu → Res (List D)
  | [a], μ => match seqD a with
    | some l => ret (enumD 0 l) μ
    | none => none
  | _, _ => none
theorem reps2 {T : Tx} {ρ : List Addr} {G : Hp} {x y : V} {a b : D} (h : Rep T ρ G x a) (g : Rep T ρ G y b) : Reps T ρ G [x, y] [a, b] := .cons h (.cons g .nil)
theorem walk_zip {K : PySem.W.Frag} {k1 k2 : Bool} {a b : Addr} {us vs : List V} {l m : List D} (h1 : ∀ G' H', Same G G' → Same G' H' → SqS K H' k1 a us) (h2 : ∀ G' H', Same G G' → Same G' H' → SqS K H' k2 b vs) (z : szl l.length) (r1 : Reps T ρ G us l) (r2 : Reps T ρ G vs m) :
    WalkD T (ItZ K k1 k2 a b) ρ G (List.zipWith pairD l m) where
  sz := by rw [List.length_zipWith]; exact Nat.le_trans (Nat.min_le_left _ _) z
  go := fun i d hd ρ' G' H' s p gh => by
    rw [List.getElem?_zipWith] at hd
    cases e1 : l[i]? with
    | none => rw [e1] at hd; cases hd
    | some d1 =>
      cases e2 : m[i]? with
      | none => rw [e1, e2] at hd; cases hd
      | some d2 =>
        rw [e1, e2] at hd
        cases hd
        obtain ⟨v1, q1, t1⟩ := r1.get e1
        obtain ⟨v2, q2, t2⟩ := r2.get e2
        refine ⟨⟨us, vs, v1, v2, h1 G' H' s gh, h2 G' H' s gh, q1, q2⟩, fun x H'' ⟨T', x', y', ex, hn, eH, f1, f2⟩ => .inr ⟨T', [x', y'], [d1, d2], hn, eH, ex, rfl, ?_, by show 2 ≤ 16777216; decide⟩⟩
        have g1 := f1 us (h1 G' H' s gh)
        have g2 := f2 vs (h2 G' H' s gh)
        rw [q1] at g1; cases g1
        rw [q2] at g2; cases g2
        exact reps2 (t1.mono s p) (t2.mono s p)
  stop := fun ρ' G' H' s p gh => ⟨us, vs, h1 G' H' s gh, h2 G' H' s gh, by rw [List.length_zipWith, r1.length, r2.length]⟩
theorem enumD_len : ∀ (l : List D) (i : Nat), (enumD i l).length = l.length
  | [], _ => rfl
  | d :: ds, i => by unfold enumD; simp [enumD_len ds]
theorem enumD_get : ∀ {l : List D} {i j : Nat} {d : D}, (enumD j l)[i]? = some d → ∃ d', l[i]? = some d' ∧ d = pairD (.int ((j + i : Nat) : Int)) d'
  | [], i, j, d, h => by simp [enumD] at h
  | x :: ds, 0, j, d, h => by
    unfold enumD at h
    simp at h
    exact ⟨x, rfl, by rw [← h]; simp⟩
  | x :: ds, i + 1, j, d, h => by
    unfold enumD at h
    obtain ⟨d', e1, e2⟩ := enumD_get (l := ds) (i := i) (j := j + 1) (by simpa using h)
    exact ⟨d', by simpa using e1, by rw [e2, show j + 1 + i = j + (i + 1) by omega]⟩
theorem walk_enum {K : PySem.W.Frag} {k1 : Bool} {a : Addr} {us : List V} {l : List D} (h1 : ∀ G' H', Same G G' → Same G' H' → SqS K H' k1 a us) (z : szl l.length) (r1 : Reps T ρ G us l) : WalkD T (ItE K k1 a) ρ G (enumD 0 l) where
  sz := by rw [enumD_len]; exact z
  go := fun i d hd ρ' G' H' s p gh => by
    obtain ⟨d', e1, rfl⟩ := enumD_get hd
    obtain ⟨v1, q1, t1⟩ := r1.get e1
    refine ⟨⟨us, v1, h1 G' H' s gh, q1⟩, fun x H'' ⟨T', x', ex, hn, eH, f1⟩ => .inr ⟨T', [.int (i : Nat), x'], [.int ((0 + i : Nat) : Int), d'], hn, eH, ex, rfl, ?_, by show 2 ≤ 16777216; decide⟩⟩
    have g1 := f1 us (h1 G' H' s gh)
    rw [q1] at g1; cases g1
    exact reps2 (by rw [Nat.zero_add]; exact rep_int) (t1.mono s p)
  stop := fun ρ' G' H' s p gh => ⟨us, h1 G' H' s gh, by rw [enumD_len, r1.length]⟩
theorem di_zip {elts : List Expr} {kk : Nat} {tpos : Pos} {a b : Expr} {p pos : Pos} {n : DEnv → Mu → Res (List D)} (hg : Gl X "zip") (hm : X.mg "zip" = none) (ha : DA X B W [a, b] n)
    (hs : starEach [a, b] X.env = (false, eval a X.env) :: starEach [b] X.env := by rfl) (hpl : (backTo pos (starEach [b] X.env)).any (·.1) = false := by rfl) : DI X B W (.Tuple elts kk tpos) (.Call (.Name "zip" p) [a, b] [] pos) (dArg fZip n) := by
  refine ⟨piImp (pi_zipS hg hm ha.run hs hpl) fun σ H R ⟨ρ, G, env, μ, R0, k⟩ => ⟨ρ, G, env, μ, R0, (KE.bind (f := fZip) k).imp fun ρ1 G1 H1 μ1 ds s p R1 k1 vs hvs => ?_⟩⟩
  unfold fZip at k1
  split at k1
  · rename_i d e
    split at k1
    · rename_i l m e1 e2
      obtain ⟨v, u, rfl, hv, hu⟩ := hreps2 hvs
      obtain ⟨k, a, xs, rfl, q1, z1, r1⟩ := seqD_inv R1 hv e1
      obtain ⟨k', b, ys, rfl, q2, z2, r2⟩ := seqD_inv R1 hu e2
      exact ⟨k, k', a, b, xs, ys, rfl, q1 _ _ (fun _ _ h => h) R1.gh, q2 _ _ (fun _ _ h => h) R1.gh, k1 ρ1 G1 H1 (fun _ _ h => h) (.refl _) R1 _ (walk_zip q1 q2 z1 r1 r2)⟩
    · exact k1.elim
  · exact k1.elim
theorem di_enum {elts : List Expr} {kk : Nat} {tpos : Pos} {a : Expr} {p pos : Pos} {n : DEnv → Mu → Res (List D)} (hg : Gl X "enumerate") (hm : X.mg "enumerate" = none) (ha : DA X B W [a] n)
    (hs : starEach [a] X.env = [(false, eval a X.env)] := by rfl) : DI X B W (.Tuple elts kk tpos) (.Call (.Name "enumerate" p) [a] [] pos) (dArg fEnum n) := by
  refine ⟨piImp (pi_enumS hg hm ha.run hs) fun σ H R ⟨ρ, G, env, μ, R0, k⟩ => ⟨ρ, G, env, μ, R0, (KE.bind (f := fEnum) k).imp fun ρ1 G1 H1 μ1 ds s p R1 k1 vs hvs => ?_⟩⟩
  unfold fEnum at k1
  split at k1
  · rename_i d
    split at k1
    · rename_i l e1
      obtain ⟨v, rfl, hv⟩ := hreps1 hvs
      obtain ⟨k, a, xs, rfl, q1, z1, r1⟩ := seqD_inv R1 hv e1
      exact ⟨k, a, xs, rfl, q1 _ _ (fun _ _ h => h) R1.gh, k1 ρ1 G1 H1 (fun _ _ h => h) (.refl _) R1 _ (walk_enum q1 z1 r1)⟩
    · exact k1.elim
  · exact k1.elim
end
end Dv

/-! DvF: targets, comprehensions, calls of built-ins, subscripts. -/
namespace Dv
open PySem PySem.Spec PyProof.Rows L2
/-! ### targets -/
abbrev DTg := DEnv → D → Option DEnv
/-- a target by deep values: it stores the slots is -/
structure GD (K : PySem.W.Frag) (mg : Str → Option Value) (g : TG) (t : DTg) (is : List Nat) : Prop where
  ok : ∀ (B : Bs) (ρ : List Addr) (G H : Hp) (σ : L2.St) (env : DEnv) (μ : Mu) (x : V) (d : D) (env' : DEnv) (Q : L2.St → Hp → Prop), RD ⟨K, mg⟩ B ρ G H σ env μ → Rep ⟨K, mg⟩ ρ G x d → t env d = some env' →
    (∀ σ', RD ⟨K, mg⟩ B ρ G H σ' env' μ → (∀ vs : List Nat, (∀ i ∈ is, i ∈ vs) → wipe σ' vs = wipe σ vs) → (∀ i, i ∉ is → σ'[i]? = σ[i]?) → Q σ' H) → g x σ H Q
  out : ∀ env d env', t env d = some env' → ∀ i, i ∉ is → env'[i]? = env[i]?
structure GsD (K : PySem.W.Frag) (mg : Str → Option Value) (g : TGs) (t : DEnv → List D → Option DEnv) (is : List Nat) : Prop where
  ok : ∀ (B : Bs) (ρ : List Addr) (G H : Hp) (σ : L2.St) (env : DEnv) (μ : Mu) (xs : List V) (ds : List D) (env' : DEnv) (Q : L2.St → Hp → Prop), RD ⟨K, mg⟩ B ρ G H σ env μ → Reps ⟨K, mg⟩ ρ G xs ds → t env ds = some env' →
    (∀ σ', RD ⟨K, mg⟩ B ρ G H σ' env' μ → (∀ vs : List Nat, (∀ i ∈ is, i ∈ vs) → wipe σ' vs = wipe σ vs) → (∀ i, i ∉ is → σ'[i]? = σ[i]?) → Q σ' H) → g xs σ H Q
  out : ∀ env ds env', t env ds = some env' → ∀ i, i ∉ is → env'[i]? = env[i]?
def tName (i : Nat) : DTg := fun env d => some (env.set i (.v d))
def tsNil : DEnv → List D → Option DEnv
  | env, [] => some env
  | _, _ => none
def tsCons (t : DTg) (u : DEnv → List D → Option DEnv) : DEnv → List D → Option DEnv
  | env, d :: ds => (match t env d with
    | some env' => u env' ds
    | none => none)
  | _, [] => none
def tTup (n : Nat) (u : DEnv → List D → Option DEnv) : DTg := fun env d => match d with
  | .tup l => if l.length = n then u env l else none
  | _ => none
section
variable {K : PySem.W.Frag} {mg : Str → Option Value}
theorem wipe_set {σ : L2.St} {i : Nat} {v : Option V} : ∀ {vs : List Nat}, i ∈ vs → wipe (σ.set i v) vs = wipe σ vs := by
  intro vs h
  apply List.ext_getElem?
  intro j
  have len : (wipe (σ.set i v) vs).length = (wipe σ vs).length := by rw [wipe_length, wipe_length, List.length_set]
  by_cases hj : j ∈ vs
  · have w : ∀ (τ : L2.St), (wipe τ vs)[j]? = if j < τ.length then some none else none := by
      intro τ
      induction vs with
      | nil => cases hj
      | cons u us ih =>
        unfold wipe
        by_cases e : u = j
        · subst e
          by_cases hl : u < τ.length
          · rw [List.getElem?_set_self (by rw [wipe_length]; exact hl), if_pos hl]
          · rw [List.getElem?_eq_none (by rw [List.length_set, wipe_length]; omega), if_neg hl]
        · rw [List.getElem?_set_ne e]
          have hj' : j ∈ us := by
            rcases List.mem_cons.mp hj with q | q
            · exact absurd q.symm e
            · exact q
          clear ih
          revert hj'
          intro hj'
          have : ∀ (ws : List Nat), j ∈ ws → (wipe τ ws)[j]? = if j < τ.length then some none else none := by
            intro ws
            induction ws with
            | nil => intro z; cases z
            | cons y ys ih2 =>
              intro z
              unfold wipe
              by_cases e2 : y = j
              · subst e2
                by_cases hl : y < τ.length
                · rw [List.getElem?_set_self (by rw [wipe_length]; exact hl), if_pos hl]
                · rw [List.getElem?_eq_none (by rw [List.length_set, wipe_length]; omega), if_neg hl]
              · rw [List.getElem?_set_ne e2]
                rcases List.mem_cons.mp z with q | q
                · exact absurd q.symm e2
                · exact ih2 q
          exact this us hj'
    rw [w, w, List.length_set]
  · rw [wipe_out hj, wipe_out hj, List.getElem?_set_ne (fun e => hj (by rw [← e]; exact h))]
theorem gd_name {i : Nat} : GD K mg (gName i) (tName i) [i] where
  ok := fun B ρ G H σ env μ x d env' Q R r e k => by
    unfold tName at e
    cases e
    refine k (σ.set i (some x)) (R.set r) (fun vs h => wipe_set (h i (by simp))) fun j hj => ?_
    exact List.getElem?_set_ne (fun q => hj (by simp [q]))
  out := fun env d env' e j hj => by
    unfold tName at e
    cases e
    exact List.getElem?_set_ne (fun q => hj (by simp [q]))
theorem gsd_nil : GsD K mg gNil tsNil [] where
  ok := fun B ρ G H σ env μ xs ds env' Q R r e k => by
    cases ds with
    | nil =>
      unfold tsNil at e
      cases e
      exact ⟨r.inv0, k σ R (fun _ _ => rfl) fun _ _ => rfl⟩
    | cons d ds => unfold tsNil at e; cases e
  out := fun env ds env' e j hj => by
    cases ds with
    | nil => unfold tsNil at e; cases e; rfl
    | cons d ds => unfold tsNil at e; cases e
theorem gsd_cons {g : TG} {t : DTg} {is js : List Nat} {gs : TGs} {u : DEnv → List D → Option DEnv} (h : GD K mg g t is) (h' : GsD K mg gs u js) : GsD K mg (gCons g gs) (tsCons t u) (is ++ js) where
  ok := fun B ρ G H σ env μ xs ds env' Q R r e k => by
    cases ds with
    | nil => unfold tsCons at e; cases e
    | cons d ds =>
      unfold tsCons at e
      simp only at e
      split at e
      · rename_i env1 e1
        obtain ⟨v, rr, rfl, r1, r2⟩ := r.inv
        refine ⟨v, rr, rfl, h.ok B ρ G H σ env μ v d env1 _ R r1 e1 fun σ1 R1 w1 o1 => h'.ok B ρ G H σ1 env1 μ rr ds env' _ R1 r2 e fun σ2 R2 w2 o2 => k σ2 R2 (fun vs hv => ?_) fun i hi => ?_⟩
        · rw [w2 vs fun i hi => hv i (List.mem_append_right _ hi), w1 vs fun i hi => hv i (List.mem_append_left _ hi)]
        · rw [o2 i fun m => hi (List.mem_append_right _ m), o1 i fun m => hi (List.mem_append_left _ m)]
      · cases e
  out := fun env ds env' e i hi => by
    cases ds with
    | nil => unfold tsCons at e; cases e
    | cons d ds =>
      unfold tsCons at e
      simp only at e
      split at e
      · rename_i env1 e1
        rw [h'.out _ _ _ e i fun m => hi (List.mem_append_right _ m), h.out _ _ _ e1 i fun m => hi (List.mem_append_left _ m)]
      · cases e
theorem gd_tup {n : Nat} {gs : TGs} {u : DEnv → List D → Option DEnv} {is : List Nat} (h : GsD K mg gs u is) : GD K mg (gTup K n gs) (tTup n u) is where
  ok := fun B ρ G H σ env μ x d env' Q R r e k => by
    unfold tTup at e
    split at e
    · rename_i l
      split at e
      · rename_i hn
        obtain ⟨a, vs, rfl, q, z, rs⟩ := tup_inv (σ := σ) (env := env) (.of r)
        exact ⟨a, vs, rfl, (sqG_mono R.gh q).sq, by rw [rs.length, hn], h.ok B ρ G H σ env μ vs l env' Q R rs e k⟩
      · cases e
    · cases e
  out := fun env d env' e i hi => by
    unfold tTup at e
    split at e
    · split at e
      · exact h.out _ _ _ e i hi
      · cases e
    · cases e
end
/-! ### a list of the block's own -/
def Bs.add (B : Bs) (a : Addr) (vs : List V) : Bs := { B with xo := (a, vs) :: B.xo }
section
variable {T : Tx} {B : Bs} {ρ : List Addr} {G H : Hp} {σ : L2.St} {env : DEnv} {μ : Mu} {a : Addr} {vs us : List V}
theorem RD.addX (R : RD T B ρ G H σ env μ) (h1 : H a = some (.lst vs)) (h2 : G a = none) (h3 : a ∉ ρ) (h4 : B.H0 a = none) (h5 : ∀ (i : Nat) (l' : List D), env[i]? = some (.own l') → σ[i]? ≠ some (some (.ref a))) (h6 : ∀ q ∈ B.xo, q.1 ≠ a) :
    RD T (B.add a vs) ρ G H σ env μ :=
  ⟨R.gh, R.ext, R.len, R.slot, R.own, R.st, fun q hq => (List.mem_cons.mp hq).elim (fun e => by subst e; exact ⟨h1, h2, h3, h4, h5⟩) (R.xo q), List.nodup_cons.mpr ⟨fun m => by
    obtain ⟨q, hq, e⟩ := List.mem_map.mp m
    exact h6 q hq e, R.xn⟩⟩
theorem RD.delX (R : RD T (B.add a vs) ρ G H σ env μ) : RD T B ρ G H σ env μ ∧ H a = some (.lst vs) ∧ G a = none ∧ a ∉ ρ ∧ B.H0 a = none ∧ (∀ (i : Nat) (l' : List D), env[i]? = some (.own l') → σ[i]? ≠ some (some (.ref a))) ∧ ∀ q ∈ B.xo, q.1 ≠ a := by
  have h := R.xo (a, vs) List.mem_cons_self
  have n := List.nodup_cons.mp (show ((a :: B.xo.map (·.1)) : List Addr).Nodup from R.xn)
  exact ⟨⟨R.gh, R.ext, R.len, R.slot, R.own, R.st, fun q hq => R.xo q (List.mem_cons_of_mem _ hq), n.2⟩, h.1, h.2.1, h.2.2.1, h.2.2.2.1, h.2.2.2.2, fun q hq e => n.1 (List.mem_map.mpr ⟨q, hq, e⟩)⟩
/-- nobody's list is changed -/
theorem RD.writeN (R : RD T B ρ G H σ env μ) {o : HO} (h1 : ∃ o', H a = some o') (h2 : G a = none) (h3 : a ∉ ρ) (h4 : B.H0 a = none) (h5 : ∀ (i : Nat) (l' : List D), env[i]? = some (.own l') → σ[i]? ≠ some (some (.ref a))) (h6 : ∀ q ∈ B.xo, q.1 ≠ a) :
    RD T B ρ G (upd H a o) σ env μ := by
  refine ⟨fun b u e => ?_, ⟨R.ext.gg, R.ext.pre, fun b u e => ?_, R.ext.fg, R.ext.fr⟩, R.len, fun i s hs => ?_, R.own, ⟨R.st.len, R.st.nd, R.st.off, fun k m hm => ?_⟩, fun q hq => ?_, R.xn⟩
  · rw [upd_ne (fun q => by rw [q, h2] at e; cases e)]; exact R.gh b u e
  · obtain ⟨o', e1, k⟩ := R.ext.keep b u e
    exact ⟨o', by rw [upd_ne (fun q => by rw [q, h4] at e; cases e)]; exact e1, k⟩
  · have h := R.slot i s hs
    cases s with
    | no => trivial
    | v d => exact h
    | own l =>
      obtain ⟨q, ws, e1, e2, r⟩ := h
      exact ⟨q, ws, e1, by rw [upd_ne (fun z => h5 i l hs (by rw [e1, z]))]; exact e2, r⟩
  · obtain ⟨b, eb, r⟩ := R.st.at_ k m hm
    refine ⟨b, eb, ?_⟩
    have nb : b ≠ a := fun z => h3 (z ▸ List.mem_of_getElem? eb)
    cases m with
    | src s =>
      obtain ⟨l, e1, e2⟩ := r
      exact ⟨l, by rw [upd_ne nb]; exact e1, e2⟩
  · obtain ⟨e1, e2⟩ := R.xo q hq
    exact ⟨by rw [upd_ne (h6 q hq)]; exact e1, e2⟩
theorem RD.updX (R : RD T (B.add a vs) ρ G H σ env μ) : RD T (B.add a us) ρ G (upd H a (.lst us)) σ env μ := by
  obtain ⟨R0, h1, h2, h3, h4, h5, h6⟩ := R.delX
  exact (R0.writeN ⟨_, h1⟩ h2 h3 h4 h5 h6).addX upd_same h2 h3 h4 h5 h6
end
/-! ### comprehensions -/
def W0 : WX := fun _ _ _ _ => False
def lcRun (tg : DTg) (tt : DEnv → Mu → Res Bool) (el : DEx) (env : DEnv) : List D → Mu → Option (List D × Mu)
  | [], μ => some ([], μ)
  | d :: ds, μ => match tg env d with
    | none => none
    | some env1 => match tt env1 μ with
      | some (.val true, μ1) => (match el env1 μ1 with
        | some (.val d', μ2) => if nobor d' then (match lcRun tg tt el env ds μ2 with
          | some (l, μ3) => some (hold d' :: l, μ3)
          | none => none) else none
        | _ => none)
      | some (.val false, μ1) => lcRun tg tt el env ds μ1
      | _ => none
def lcFin (tg : DTg) (tt : DEnv → Mu → Res Bool) (el : DEx) (env : DEnv) (ds : List D) (μ : Mu) : Res D := match lcRun tg tt el env ds μ with
  | some (l, μ1) => ret (.new l) μ1
  | none => none
def dLc (it : DEnv → Mu → Res (List D)) (own : List Nat) (tg : DTg) (tt : DEnv → Mu → Res Bool) (el : DEx) : DEx := fun env μ => if noOwn env own then bindR (it env μ) (lcFin tg tt el (wipeD env own)) else none
structure DTs (X : Cx) (B : Bs) (W : WX) (ifs : List Expr) (m : DEnv → Mu → Res Bool) : Prop where
  run : PTs X ifs (rdT (tx X) B W m)
def dYes : DEnv → Mu → Res Bool := fun _ μ => ret true μ
theorem dts_nil {X : Cx} {B : Bs} {W : WX} : DTs X B W [] dYes := ⟨⟨fun pins s σ H Q I ⟨ρ, G, env, μ, R, k⟩ => pts_nil.run pins s σ H Q I (k ρ G H (fun _ _ h => h) (.refl _) R)⟩⟩
theorem dts_one {X : Cx} {B : Bs} {W : WX} {c : Expr} {m : DEnv → Mu → Res Bool} (h : DT X B W c m) : DTs X B W [c] m := ⟨pts_one h.run⟩
theorem wipe_wipe {σ : L2.St} {vs : List Nat} : wipe (wipe σ vs) vs = wipe σ vs := by
  have key : ∀ (ws : List Nat), (∀ i ∈ ws, i ∈ vs) → wipe (wipe σ ws) vs = wipe σ vs := by
    intro ws
    induction ws with
    | nil => intro _; rfl
    | cons w ws ih =>
      intro h
      show wipe ((wipe σ ws).set w none) vs = _
      rw [wipe_set (h w List.mem_cons_self)]
      exact ih fun i hi => h i (List.mem_cons_of_mem _ hi)
  exact key vs fun _ h => h
theorem hold_nobor {d : D} (h : nobor d = true) : nobor (hold d) = true := by cases d <;> first | rfl | exact h
section
variable {X : Cx} {B : Bs} {W : WX}
theorem szl_line' {n m : Nat} (h : n < m) (z : szl m) : n < sizeLine := by rw [sizeLine_eq]; exact Nat.lt_of_lt_of_le h z
theorem rd_lc {J : It} {g : TG} {tg : DTg} {is : List Nat} {tt : DEnv → Mu → Res Bool} {el : DEx} {vs : List Nat} {ρ1 : List Addr} {G1 H1 : Hp} {σ : L2.St} {env : DEnv} {μ1 μf : Mu} {ds l : List D} {Q : VK} {T : Tx}
    (gd : GD T.K T.mg g tg is) (his : ∀ i ∈ is, i ∈ vs) (no : noOwn env vs = true) (R1 : RD T B ρ1 G1 H1 σ env μ1) (wk : WalkD T J ρ1 G1 ds) (hr : lcRun tg tt el (wipeD env vs) ds μ1 = some (l, μf))
    (fin : ∀ ρ' G' H' v, Same G1 G' → Pre ρ1 ρ' → RD T B ρ' G' H' σ env μf → RepX T B ρ' G' H' σ env v (.new l) → Q v H') (D : Addr) (hD : H1 D = none) :
    ∃ W : Nat → Nat → Hp → Prop, (∃ m, W 0 m (upd H1 D (.lst []))) ∧ ∀ i m H, W i m H →
      (J.stop i H ∧ Q (.ref D) H) ∨ (J.go i H ∧ ∃ Nx : Hp → Prop, (∀ H', Nx H' → ∃ m', m' < m ∧ W (i + 1) m' H') ∧ ∀ x H', J.yld i H x H' → g x (wipe σ vs) H' fun σ2 H2 => wipe σ2 vs = wipe σ vs ∧ (fun σ H Q => ∃ B', rdT T B' W0 tt σ H Q) σ2 H2 fun b H3 =>
        if b = true then (fun σ H Q => ∃ B', rdE T B' W0 el σ H Q) σ2 H3 fun y H4 => ∃ acc, H4 D = some (.lst acc) ∧ acc.length < sizeLine ∧ Nx (upd H4 D (.lst (acc ++ [y]))) else Nx H3) := by
  obtain ⟨gD, pD, bD⟩ := R1.fresh_ hD
  refine ⟨fun i m H' => ∃ ρ' G' μ' us acc rest, m = ds.length - i ∧ i ≤ ds.length ∧ Same G1 G' ∧ Pre ρ1 ρ' ∧ RD T (B.add D us) ρ' G' H' σ env μ' ∧ Reps T ρ' G' us acc ∧ acc.length ≤ i ∧ lcRun tg tt el (wipeD env vs) (ds.drop i) μ' = some (rest, μf) ∧ acc ++ rest = l, ⟨ds.length, ρ1, G1, μ1, [], [], l, by omega, Nat.zero_le _, fun _ _ h => h, .refl _, ?_, .nil, Nat.le_refl _, hr, rfl⟩, ?_⟩
  · refine (R1.allocN hD).addX upd_same gD pD bD (fun i l' e1 e2 => ?_) fun q hq e => ?_
    · obtain ⟨q, us, e3, e4, _⟩ := R1.slot i _ e1
      rw [e2] at e3; cases e3
      rw [hD] at e4; cases e4
    · have e1 := (R1.xo q hq).1
      rw [e, hD] at e1; cases e1
  · rintro i m H' ⟨ρ', G', μ', us, acc, rest, rfl, hi, s, p, R, ra, la, hrun, hl⟩
    by_cases hlt : i < ds.length
    · have hd : ds[i]? = some ds[i] := by simp [hlt]
      obtain ⟨jg, jy⟩ := wk.go i _ hd ρ' G' H' s p R.gh
      refine .inr ⟨jg, fun H'' => ∃ ρ2 G2 μ2 us2 acc2 rest2, Same G1 G2 ∧ Pre ρ1 ρ2 ∧ RD T (B.add D us2) ρ2 G2 H'' σ env μ2 ∧ Reps T ρ2 G2 us2 acc2 ∧ acc2.length ≤ i + 1 ∧ lcRun tg tt el (wipeD env vs) (ds.drop (i + 1)) μ2 = some (rest2, μf) ∧ acc2 ++ rest2 = l,
        fun H'' ⟨ρ2, G2, μ2, us2, acc2, rest2, h1, h2, h3, h4, h5, h6, h7⟩ => ⟨ds.length - (i + 1), by omega, ρ2, G2, μ2, us2, acc2, rest2, rfl, hlt, h1, h2, h3, h4, h5, h6, h7⟩, fun x H'' hy => ?_⟩
      -- the item, in a heap where it is frozen
      have item : ∃ G2, Same G' G2 ∧ RD T (B.add D us) ρ' G2 H'' σ env μ' ∧ Rep T ρ' G2 x ds[i] := by
        rcases jy x H'' hy with ⟨e, r⟩ | ⟨q, ws, l', hn, e, ex, ed, r, z⟩
        · exact ⟨G', fun _ _ h => h, by rw [e]; exact R, r⟩
        · have gn := (R.fresh_ hn).1
          exact ⟨_, same_upd gn, by rw [e]; exact R.alloc hn, by rw [ex, ed]; exact rep_tup (.inl upd_same) z (r.mono (same_upd gn) (.refl _))⟩
      obtain ⟨G2, s2, R2, rx⟩ := item
      rw [List.drop_eq_getElem_cons hlt] at hrun
      unfold lcRun at hrun
      split at hrun
      · cases hrun
      · rename_i env1 he1
        have hout := gd.out _ _ _ he1
        refine gd.ok (B.add D us) ρ' G2 H'' (wipe σ vs) (wipeD env vs) μ' x _ env1 _ (R2.wipe vs) rx he1 fun σ2 R3 hw ho => ⟨by rw [hw vs his]; exact wipe_wipe, ?_⟩
        have agE : ∀ j, j ∉ vs → env1[j]? = env[j]? := fun j hj => by rw [hout j fun m => hj (his j m), wipeD_out hj]
        have agS : ∀ j, j ∉ vs → σ2[j]? = σ[j]? := fun j hj => by rw [ho j fun m => hj (his j m), wipe_out hj]
        split at hrun
        · rename_i μ2 ht
          refine ⟨B.add D us, ρ', G2, env1, μ', R3, ?_⟩
          rw [ht]
          intro ρ3 G3 H3 s3 p3 R4
          show (if true = true then _ else _)
          rw [if_pos rfl]
          split at hrun
          · rename_i d' μ3 he
            split at hrun
            · rename_i hb
              split at hrun
              · rename_i l3 μ4 hrest
                cases hrun
                refine ⟨B.add D us, ρ3, G3, env1, μ2, R4, ?_⟩
                rw [he]
                intro ρ4 G4 H4 s4 p4 R5 y hy2
                obtain ⟨G5, s5, R6, hh⟩ := hy2.hold R5
                have ry := hh.rep (hold_nobor hb)
                have S : Same G' G5 := ((s2.trans s3).trans s4).trans s5
                have P : Pre ρ' ρ4 := p3.trans p4
                have R7 : RD T (B.add D us) ρ4 G5 H4 σ env μ3 := R.back R6 S P no agE agS
                have hD4 := R7.delX.2.1
                have hul : us.length = acc.length := ra.length
                refine ⟨us, hD4, szl_line' (by omega : us.length < ds.length) wk.sz, ρ4, G5, μ3, us ++ [y], acc ++ [Dv.hold d'], l3, s.trans S, p.trans P, R7.updX, (ra.mono S P).append (.one ry), by simp; omega, hrest, by rw [← hl]; simp⟩
              · cases hrun
            · cases hrun
          · cases hrun
        · rename_i μ2 ht
          refine ⟨B.add D us, ρ', G2, env1, μ', R3, ?_⟩
          rw [ht]
          intro ρ3 G3 H3 s3 p3 R4
          show (if false = true then _ else _)
          rw [if_neg (by decide)]
          have S : Same G' G3 := s2.trans s3
          exact ⟨ρ3, G3, μ2, us, acc, rest, s.trans S, p.trans p3, R.back R4 S p3 no agE agS, ra.mono S p3, by omega, hrun, hl⟩
        · cases hrun
    · have e : i = ds.length := by omega
      subst e
      rw [List.drop_length] at hrun
      unfold lcRun at hrun
      cases hrun
      refine .inl ⟨wk.stop ρ' G' H' s p R.gh, ?_⟩
      obtain ⟨R0, h1, h2, h3, h4, h5, h6⟩ := R.delX
      rw [List.append_nil] at hl
      subst hl
      exact fin ρ' G' H' (.ref D) s p R0 ⟨D, us, rfl, h1, ra, Nat.le_trans la wk.sz, h2, h3, h4, h5, h6⟩
end
end Dv

/-! DvG: comprehensions as expressions, calls of built-ins, subscripts, slices, isinstance. -/
namespace Dv
open PySem PySem.Spec PyProof.Rows L2
section
variable {X : Cx} {B : Bs} {W : WX}
/-- the element's and the tests' readings in a block, whatever list is at hand there -/
def exE (T : Tx) (el : DEx) : TE := fun σ H Q => ∃ B', rdE T B' W0 el σ H Q
def exT (T : Tx) (tt : DEnv → Mu → Res Bool) : TT := fun σ H Q => ∃ B', rdT T B' W0 tt σ H Q
theorem pe_ex {Y : Cx} {e : Expr} {el : DEx} (h : ∀ B, DE Y B W0 e el) : PE Y e (exE (tx Y) el) := ⟨fun pins s σ H Q I ⟨B', q⟩ => (h B').run.run pins s σ H Q I q⟩
theorem pt_ex {Y : Cx} {ifs : List Expr} {tt : DEnv → Mu → Res Bool} (h : ∀ B, DTs Y B W0 ifs tt) : PTs Y ifs (exT (tx Y) tt) := ⟨fun pins s σ H Q I ⟨B', q⟩ => (h B').run.run pins s σ H Q I q⟩
theorem rd_tLc {T : Tx} {it : DEnv → Mu → Res (List D)} {g : TG} {tg : DTg} {is : List Nat} {tt : DEnv → Mu → Res Bool} {el : DEx} {vs : List Nat} (gd : GD T.K T.mg g tg is) (his : ∀ i ∈ is, i ∈ vs) {σ : L2.St} {H : Hp} {Q : VK}
    (h : rdE T B W (dLc it vs tg tt el) σ H Q) : tLc (rdI T B W it) g (exT T tt) (exE T el) vs σ H Q := by
  obtain ⟨ρ, G, env, μ, R, k⟩ := h
  unfold dLc at k
  split at k
  · rename_i no
    refine ⟨ρ, G, env, μ, R, (KE.bind (f := lcFin tg tt el (wipeD env vs)) k).imp fun ρ1 G1 H1 μ1 ds s p R1 k1 J wk => ?_⟩
    unfold lcFin at k1
    split at k1
    · rename_i l μ2 hr
      exact rd_lc gd his no R1 wk hr fun ρ' G' H' v s' p' R' hv => k1 ρ' G' H' s' p' R' v hv
    · exact k1.elim
  · exact k.elim
theorem de_lc {elt tg iter : Expr} {ifs : List Expr} {scope : Scope} {own : List (Str × Nat)} {pos : Pos} {it : DEnv → Mu → Res (List D)} {g : TG} {t : DTg} {is : List Nat} {tt : DEnv → Mu → Res Bool} {el : DEx}
    (hc : X.calm = true) (hN : X.N.Nodup) (hi : DI X B W tg iter it) (ok : BlkOk X.N X.env.scope scope own) (gd : GD X.K X.mg g t is) (his : ∀ i ∈ is, i ∈ own.map (·.2))
    (hg : ∀ (s : Shared) (H : Hp) (C : Addr) (cl : List (Str × Addr)) (fp : List Addr), PG (X.blk s H scope (compEnvC scope cl C X.env) fp) tg g)
    (ht : ∀ (s : Shared) (H : Hp) (C : Addr) (cl : List (Str × Addr)) (fp : List Addr) (B : Bs), DTs (X.blk s H scope (compEnvC scope cl C X.env) fp) B W0 ifs tt)
    (he : ∀ (s : Shared) (H : Hp) (C : Addr) (cl : List (Str × Addr)) (fp : List Addr) (B : Bs), DE (X.blk s H scope (compEnvC scope cl C X.env) fp) B W0 elt el) (hs : ∀ x, foldedSetIterable iter X.env x = pure x := by intro _; rfl) :
    DE X B W (.ListComp elt [⟨tg, iter, ifs, 0⟩] scope pos) (dLc it (own.map (·.2)) t tt el) :=
  ⟨peImp (pe_lc (te := exE (tx X) el) (tt := exT (tx X) tt) hc hN hi.run ok hg (fun s H C cl fp => pt_ex (ht s H C cl fp)) (fun s H C cl fp => pe_ex (he s H C cl fp)) hs) fun _ _ _ h => rd_tLc gd his h⟩
/-! ### calls of what is built in -/
abbrev FA := List D → Mu → Res D
def CallD (T : Tx) (r : List V → Hp → VK → Prop) (f : FA) : Prop := ∀ (B : Bs) (W : WX) (σ : L2.St) (env : DEnv) (ρ : List Addr) (G H : Hp) (μ : Mu) (vs : List V) (ds : List D) (Q : VK),
  RD T B ρ G H σ env μ → HReps T ρ G σ env vs ds → KE T B σ env W (PX T B σ env Q) ρ G (f ds μ) → r vs H Q
def dCall (f : FA) (n : DEnv → Mu → Res (List D)) : DEx := fun env μ => bindR (n env μ) f
theorem rd_call {T : Tx} {r : List V → Hp → VK → Prop} {f : FA} {n : DEnv → Mu → Res (List D)} (hf : CallD T r f) {σ : L2.St} {H : Hp} {Q : VK} (h : rdE T B W (dCall f n) σ H Q) : tCB r (rdA T B W n) σ H Q := by
  obtain ⟨ρ, G, env, μ, R, k⟩ := h
  exact ⟨ρ, G, env, μ, R, (KE.bind (f := f) k).imp fun ρ1 G1 H1 μ1 ds s p R1 k1 vs hvs => hf B W σ env ρ1 G1 H1 μ1 vs ds Q R1 hvs k1⟩
theorem de_callB {x : Str} {p pos : Pos} {e : Expr} {es : List Expr} {n : DEnv → Mu → Res (List D)} {id : String} {r : List V → Hp → VK → Prop} {f : FA} (hc : CallR X (.builtin id) r) (hf : CallD (tx X) r f) (hg : Gl X x) (hm : X.mg x = none) (hv : bootBuiltins x = some (.builtin id)) (ha : DA X B W (e :: es) n)
    (hn : x ≠ "__name__" := by decide) (hdb : (x == ("__debug__" : Str)) = false := by decide) (he : starEach (e :: es) X.env = (false, eval e X.env) :: starEach es X.env := by rfl) (hpl : (backTo pos (starEach es X.env)).any (·.1) = false := by rfl) :
    DE X B W (.Call (.Name x p) (e :: es) [] pos) (dCall f n) := ⟨peImp (pe_callB hc hg hm hv ha.run hn hdb he hpl) fun _ _ _ h => rd_call hf h⟩
theorem de_callTy {x : Str} {p pos : Pos} {e : Expr} {es : List Expr} {n : DEnv → Mu → Res (List D)} {id : String} {r : List V → Hp → VK → Prop} {f : FA} (hc : CallR X (.type id) r) (hf : CallD (tx X) r f) (hg : Gl X x) (hm : X.mg x = none) (hv : bootBuiltins x = some (.type id)) (ha : DA X B W (e :: es) n)
    (hn : x ≠ "__name__" := by decide) (hdb : (x == ("__debug__" : Str)) = false := by decide) (he : starEach (e :: es) X.env = (false, eval e X.env) :: starEach es X.env := by rfl) (hpl : (backTo pos (starEach es X.env)).any (·.1) = false := by rfl) :
    DE X B W (.Call (.Name x p) (e :: es) [] pos) (dCall f n) := ⟨peImp (pe_callTy hc hg hm hv ha.run hn hdb he hpl) fun _ _ _ h => rd_call hf h⟩
/-! ### len, tuple, list, sum, any, all, int -/
section
variable {T : Tx} {ρ : List Addr} {G H : Hp} {σ : L2.St} {env : DEnv} {μ : Mu}
def fLen : FA
  | [.tup l], μ => ret (.int l.length) μ
  | [.lst l], μ => ret (.int l.length) μ
  | [.bor l], μ => ret (.int l.length) μ
  | [.str z], μ => if szl z.length then ret (.int z.length) μ else none
  | _, _ => none
theorem ca_len : CallD (tx X) (fun xs H Q => ∃ x n, xs = [x] ∧ LenV X.K x H n ∧ Q (.int n) H) fLen := by
  intro B W σ env ρ G H μ vs ds Q R h k
  have one : ∀ {d : D} {l : List D}, seqL d = some l → HReps (tx X) ρ G σ env vs [d] → KE (tx X) B σ env W (PX (tx X) B σ env Q) ρ G (ret (.int l.length) μ) → ∃ x n, vs = [x] ∧ LenV X.K x H n ∧ Q (.int n) H := fun {d l} e h k => by
    obtain ⟨v, rfl, hv⟩ := hreps1 h
    obtain ⟨a, us, rfl, q, z, r⟩ := seqL_inv R hv e
    exact ⟨.ref a, l.length, rfl, .inl ⟨us, .of q, r.length.symm⟩, k.here R (.ofR rep_int)⟩
  unfold fLen at k
  split at k
  · obtain ⟨v, rfl, hv⟩ := hreps1 h
    obtain ⟨a, us, rfl, q, z, r⟩ := tup_inv hv
    exact ⟨.ref a, _, rfl, .inr ⟨us, (sqG_mono R.gh q).sq, r.length.symm⟩, k.here R (.ofR rep_int)⟩
  · exact one rfl h k
  · exact one rfl h k
  · split at k
    · rename_i hz
      obtain ⟨v, rfl, hv⟩ := hreps1 h
      rw [str_inv hv]
      exact ⟨_, _, rfl, ⟨szl_line hz, rfl⟩, k.here R (.ofR rep_int)⟩
    · exact k.elim
  · exact k.elim
def fTuple : FA
  | [.tup l], μ => ret (.tup l) μ
  | [.lst l], μ => ret (.tup l) μ
  | [.bor l], μ => ret (.tup l) μ
  | _, _ => none
theorem ca_tuple : CallD (tx X) (fun xs H Q => ∃ p ys, xs = [.ref p] ∧ ((SqL X.K H p ys ∧ ∀ l, H l = none → Q (.ref l) (upd H l (.tup ys))) ∨ (SqT X.K H p ys ∧ Q (.ref p) H))) fTuple := by
  intro B W σ env ρ G H μ vs ds Q R h k
  have one : ∀ {d : D} {l : List D}, seqL d = some l → HReps (tx X) ρ G σ env vs [d] → KE (tx X) B σ env W (PX (tx X) B σ env Q) ρ G (ret (.tup l) μ) → ∃ p ys, vs = [.ref p] ∧ ((SqL X.K H p ys ∧ ∀ l, H l = none → Q (.ref l) (upd H l (.tup ys))) ∨ (SqT X.K H p ys ∧ Q (.ref p) H)) := fun {d l} e h k => by
    obtain ⟨v, rfl, hv⟩ := hreps1 h
    obtain ⟨a, us, rfl, q, z, r⟩ := seqL_inv R hv e
    exact ⟨a, us, rfl, .inl ⟨.of q, k.newT R r z⟩⟩
  unfold fTuple at k
  split at k
  · obtain ⟨v, rfl, hv⟩ := hreps1 h
    obtain ⟨a, us, rfl, q, z, r⟩ := tup_inv hv
    exact ⟨a, us, rfl, .inr ⟨(sqG_mono R.gh q).sq, k.here R (.ofR (rep_tup q z r))⟩⟩
  · exact one rfl h k
  · exact one rfl h k
  · exact k.elim
def fList : FA
  | [.tup l], μ => ret (.new l) μ
  | [.lst l], μ => ret (.new l) μ
  | [.bor l], μ => ret (.new l) μ
  | _, _ => none
theorem ca_list : CallD (tx X) (fun xs H Q => ∃ p ys, xs = [.ref p] ∧ (SqL X.K H p ys ∨ SqT X.K H p ys) ∧ ∀ l, H l = none → Q (.ref l) (upd H l (.lst ys))) fList := by
  intro B W σ env ρ G H μ vs ds Q R h k
  have one : ∀ {d : D} {l : List D}, seqL d = some l → HReps (tx X) ρ G σ env vs [d] → KE (tx X) B σ env W (PX (tx X) B σ env Q) ρ G (ret (.new l) μ) → ∃ p ys, vs = [.ref p] ∧ (SqL X.K H p ys ∨ SqT X.K H p ys) ∧ ∀ l, H l = none → Q (.ref l) (upd H l (.lst ys)) := fun {d l} e h k => by
    obtain ⟨v, rfl, hv⟩ := hreps1 h
    obtain ⟨a, us, rfl, q, z, r⟩ := seqL_inv R hv e
    exact ⟨a, us, rfl, .inl (.of q), k.newL R r z⟩
  unfold fList at k
  split at k
  · obtain ⟨v, rfl, hv⟩ := hreps1 h
    obtain ⟨a, us, rfl, q, z, r⟩ := tup_inv hv
    exact ⟨a, us, rfl, .inr (sqG_mono R.gh q).sq, k.newL R r z⟩
  · exact one rfl h k
  · exact one rfl h k
  · exact k.elim
def asInt : D → Option Int
  | .int i => some i
  | _ => none
def asBl : D → Option Bool
  | .bl i => some i
  | _ => none
def asInts : List D → Option (List Int)
  | [] => some []
  | d :: ds => (match asInt d, asInts ds with
    | some i, some l => some (i :: l)
    | _, _ => none)
def asBls : List D → Option (List Bool)
  | [] => some []
  | d :: ds => (match asBl d, asBls ds with
    | some i, some l => some (i :: l)
    | _, _ => none)
theorem asInts_inv : ∀ {l : List D} {ns : List Int} {vs : List V}, asInts l = some ns → Reps T ρ G vs l → vs = ns.map V.int
  | [], ns, vs, e, r => by unfold asInts at e; cases e; rw [r.inv0]; rfl
  | d :: ds, ns, vs, e, r => by
    unfold asInts at e
    split at e
    · rename_i i l e1 e2
      cases e
      obtain ⟨v, t, rfl, q, rs⟩ := r.inv
      cases d with
      | int j =>
        cases e1
        unfold Rep at q
        rw [q, asInts_inv e2 rs]; rfl
      | _ => cases e1
    · cases e
theorem asBls_inv : ∀ {l : List D} {ns : List Bool} {vs : List V}, asBls l = some ns → Reps T ρ G vs l → vs = ns.map V.bl
  | [], ns, vs, e, r => by unfold asBls at e; cases e; rw [r.inv0]; rfl
  | d :: ds, ns, vs, e, r => by
    unfold asBls at e
    split at e
    · rename_i i l e1 e2
      cases e
      obtain ⟨v, t, rfl, q, rs⟩ := r.inv
      cases d with
      | bl j =>
        cases e1
        unfold Rep at q
        rw [q, asBls_inv e2 rs]; rfl
      | _ => cases e1
    · cases e
def fSum : FA
  | [d], μ => (match seqL d with
    | some l => (match asInts l with
      | some ns => ret (.int ns.sum) μ
      | none => none)
    | none => none)
  | _, _ => none
def fAll : FA
  | [d], μ => (match seqL d with
    | some l => (match asBls l with
      | some ns => ret (.bl (ns.all id)) μ
      | none => none)
    | none => none)
  | _, _ => none
def fAny : FA
  | [d], μ => (match seqL d with
    | some l => (match asBls l with
      | some ns => ret (.bl (ns.any id)) μ
      | none => none)
    | none => none)
  | _, _ => none
theorem ca_sum : CallD (tx X) (rSum X.K) fSum := by
  intro B W σ env ρ G H μ vs ds Q R h k
  unfold fSum at k
  split at k
  · split at k
    · split at k
      · rename_i e1 _ ns e2
        obtain ⟨v, rfl, hv⟩ := hreps1 h
        obtain ⟨a, us, rfl, q, z, r⟩ := seqL_inv R hv e1
        exact ⟨a, ns, rfl, by rw [← asInts_inv e2 r]; exact .of q, k.here R (.ofR rep_int)⟩
      · exact k.elim
    · exact k.elim
  · exact k.elim
theorem ca_all : CallD (tx X) (rAll X.K) fAll := by
  intro B W σ env ρ G H μ vs ds Q R h k
  unfold fAll at k
  split at k
  · split at k
    · split at k
      · rename_i e1 _ ns e2
        obtain ⟨v, rfl, hv⟩ := hreps1 h
        obtain ⟨a, us, rfl, q, z, r⟩ := seqL_inv R hv e1
        exact ⟨a, ns, rfl, by rw [← asBls_inv e2 r]; exact .of q, k.here R (.ofR rep_bl)⟩
      · exact k.elim
    · exact k.elim
  · exact k.elim
theorem ca_any : CallD (tx X) (rAny X.K) fAny := by
  intro B W σ env ρ G H μ vs ds Q R h k
  unfold fAny at k
  split at k
  · split at k
    · split at k
      · rename_i e1 _ ns e2
        obtain ⟨v, rfl, hv⟩ := hreps1 h
        obtain ⟨a, us, rfl, q, z, r⟩ := seqL_inv R hv e1
        exact ⟨a, ns, rfl, by rw [← asBls_inv e2 r]; exact .of q, k.here R (.ofR rep_bl)⟩
      · exact k.elim
    · exact k.elim
  · exact k.elim
def fInt : FA
  | [.int i], μ => ret (.int i) μ
  | [.bl b], μ => ret (.int (if b then 1 else 0)) μ
  | _, _ => none
theorem ca_int : CallD (tx X) (fun xs H Q => (∃ i, xs = [.int i] ∧ Q (.int i) H) ∨ ∃ k, xs = [.bl k] ∧ Q (.int (if k then 1 else 0)) H) fInt := by
  intro B W σ env ρ G H μ vs ds Q R h k
  unfold fInt at k
  split at k
  · obtain ⟨v, rfl, hv⟩ := hreps1 h
    exact .inl ⟨_, by rw [int_inv hv], k.here R (.ofR rep_int)⟩
  · obtain ⟨v, rfl, hv⟩ := hreps1 h
    exact .inr ⟨_, by rw [bl_inv hv], k.here R (.ofR rep_int)⟩
  · exact k.elim
/-! ### isinstance, built-in types -/
def tyN : D → Option String
  | .non => some "NoneType"
  | .bl _ => some "bool"
  | .int _ => some "int"
  | .str _ => some "str"
  | .tup _ => some "tuple"
  | .lst _ => some "list"
  | .bor _ => some "list"
  | _ => none
def isTy (a b : String) : Bool := a == b || (a == "bool" && b == "int")
def okTy (b : String) : Bool := ["int", "bool", "str", "tuple", "list"].contains b
theorem kitB_is : ∀ a ∈ ["NoneType", "bool", "int", "str", "tuple", "list"], ∀ b ∈ ["int", "bool", "str", "tuple", "list"], kitB a b = some (isTy a b) := by decide +kernel
theorem tyN_mem {d : D} {a : String} (h : tyN d = some a) : a ∈ ["NoneType", "bool", "int", "str", "tuple", "list"] := by
  cases d <;> first | (cases h; simp) | cases h
theorem kit_is {K : PySem.W.Frag} {d : D} {a b : String} (h : tyN d = some a) (hb : okTy b = true) : PySem.W.kitOne K (.type a) (.type b) = some (isTy a b) :=
  kit_ty (kitB_is a (tyN_mem h) b (by unfold okTy at hb; simpa using hb))
theorem tyX_of {B : Bs} {x : V} {d : D} {a : String} (R : RD T B ρ G H σ env μ) (h : HeldR T ρ G σ env x d) (e : tyN d = some a) : TyX T.K H x (.type a) := by
  cases d with
  | non => cases e; have h : Rep T ρ G x .non := h; unfold Rep at h; subst h; exact .base .non
  | bl b => cases e; rw [bl_inv h]; exact .base (.bl b)
  | int b => cases e; rw [int_inv h]; exact .base (.int b)
  | str b => cases e; rw [str_inv h]; exact .base (.str b)
  | tup l =>
    cases e
    obtain ⟨a, us, rfl, q, _⟩ := tup_inv h
    rcases q with q | ⟨o, its, n, h1, h2, _⟩
    · exact .base (.tup (R.gh _ _ q))
    · exact .kTuple h1 h2
  | lst l =>
    cases e
    obtain ⟨a, us, rfl, q, _⟩ := lst_inv h
    exact .base (.lst (R.gh _ _ q))
  | bor l =>
    cases e
    obtain ⟨a, us, rfl, q, _⟩ := seqL_inv (d := .bor l) R h rfl
    exact .base (.lst q)
  | _ => cases e
def asTys : List D → Option (List String)
  | [] => some []
  | .ty n :: ds => (match asTys ds with
    | some l => if okTy n then some (n :: l) else none
    | none => none)
  | _ :: _ => none
def fIsi : FA
  | [d, .ty b], μ => (match tyN d with
    | some a => if okTy b then ret (.bl (isTy a b)) μ else none
    | none => none)
  | [d, .tup l], μ => (match tyN d, asTys l with
    | some a, some bs => ret (.bl (bs.any (isTy a))) μ
    | _, _ => none)
  | _, _ => none
theorem asTys_inv {a : String} {d : D} (ha : tyN d = some a) : ∀ {l : List D} {bs : List String} {vs : List V}, asTys l = some bs → Reps T ρ G vs l → Paired ClsV vs (bs.map Value.type) ∧ PySem.W.kitAny T.K (.type a) (bs.map Value.type) = some (bs.any (isTy a))
  | [], bs, vs, e, r => by unfold asTys at e; cases e; rw [r.inv0]; exact ⟨.nil, kitAny_nil⟩
  | d' :: ds, bs, vs, e, r => by
    unfold asTys at e
    split at e
    · rename_i z; cases z
    · rename_i n ds' heq
      cases heq
      split at e
      · rename_i l e2
        split at e
        · rename_i hok
          cases e
          obtain ⟨v, t, rfl, q, rs⟩ := r.inv
          unfold Rep at q
          obtain ⟨p1, p2⟩ := asTys_inv ha e2 rs
          refine ⟨.cons (by rw [q]; exact .ty n) p1, ?_⟩
          refine kitAny_cons (kit_is ha hok) (fun z => ?_) fun z => ?_
          · rw [List.any_cons, z, Bool.false_or]; exact p2
          · rw [List.any_cons, z, Bool.true_or]
        · cases e
      · cases e
    · cases e
theorem ca_isi : CallD (tx X) (fun xs H Q => rIsi X.K xs H Q ∨ rIsiT X.K xs H Q ∨ rIsiK X.K xs H Q) fIsi := by
  intro B W σ env ρ G H μ vs ds Q R h k
  unfold fIsi at k
  split at k
  · split at k
    · rename_i d b _ a ha
      split at k
      · rename_i hok
        obtain ⟨v, u, rfl, hv, hu⟩ := hreps2 h
        have hu : Rep (tx X) ρ G u (.ty b) := hu
        unfold Rep at hu
        exact .inl ⟨v, u, _, _, _, rfl, by rw [hu]; exact .ty b, tyX_of R hv ha, kit_is ha hok, k.here R (.ofR rep_bl)⟩
      · exact k.elim
    · exact k.elim
  · split at k
    · rename_i d l _ _ a bs ha hb
      obtain ⟨v, u, rfl, hv, hu⟩ := hreps2 h
      obtain ⟨t, cs, rfl, q, z, r⟩ := tup_inv hu
      obtain ⟨p1, p2⟩ := asTys_inv ha hb r
      rcases q with q | ⟨o, its, n, h1, h2, h3, _, h5⟩
      · exact .inr (.inl ⟨v, t, cs, _, _, _, rfl, R.gh _ _ q, p1, tyX_of R hv ha, p2, k.here R (.ofR rep_bl)⟩)
      · obtain ⟨oc, od, dt, sl⟩ := o
        simp only at h2 h3
        subst h2 h3
        have e := ClsV.all p1 h5
        exact .inr (.inr ⟨v, t, od, bs.map Value.type, n, sl, _, _, rfl, by rw [h1, ← e], tyX_of R hv ha, p2, k.here R (.ofR rep_bl)⟩)
    · exact k.elim
  · exact k.elim
end
end
end Dv

/-! DvH: subscripts, slices; statements; defs and their calls. -/
namespace Dv
open PySem PySem.Spec PyProof.Rows L2
section
variable {X : Cx} {B : Bs} {W : WX}
/-! ### subscripts -/
theorem atI_reps {T : Tx} {ρ : List Addr} {G : Hp} {l : List D} {vs : List V} {i : Int} {d : D} (r : Reps T ρ G vs l) (h : atI l i = some d) : ∃ v, atI vs i = some v ∧ Rep T ρ G v d := by
  unfold atI at h ⊢
  rw [r.length]
  cases e : ixN l.length i with
  | none => rw [e] at h; cases h
  | some j =>
    rw [e] at h
    exact r.get (show l[j]? = some d from h)
def fIx : F2
  | .tup l, .int i, μ => (match atI l i with
    | some d => ret d μ
    | none => none)
  | .lst l, .int i, μ => (match atI l i with
    | some d => ret d μ
    | none => none)
  | .bor l, .int i, μ => (match atI l i with
    | some d => ret d μ
    | none => none)
  | .str z, .int i, μ => (match atI z.cps.toList i with
    | some c => if szl z.length then ret (.str ⟨#[c]⟩) μ else none
    | none => none)
  | _, _, _ => none
theorem opd_ix : OpD (tx X) (rIx X.K) fIx := by
  intro B W σ env ρ G H μ x y d d' Q R hx hy k
  have one : ∀ {l : List D} {i : Int} {d' : D}, seqL d = some l → HeldR (tx X) ρ G σ env y (.int i) → atI l i = some d' → KE (tx X) B σ env W (PX (tx X) B σ env Q) ρ G (ret d' μ) → rIx X.K x y H Q := fun {l i d'} e hy ha k => by
    obtain ⟨a, us, rfl, q, z, r⟩ := seqL_inv R hx e
    obtain ⟨v, e1, r1⟩ := atI_reps r ha
    exact .inl ⟨a, us, i, v, rfl, int_inv hy, .of q, e1, k.here R (.ofR r1)⟩
  unfold fIx at k
  split at k
  · split at k
    · rename_i ha
      obtain ⟨a, us, rfl, q, z, r⟩ := tup_inv hx
      obtain ⟨v, e1, r1⟩ := atI_reps r ha
      exact .inr (.inl ⟨a, us, _, v, rfl, int_inv hy, (sqG_mono R.gh q).sq, e1, k.here R (.ofR r1)⟩)
    · exact k.elim
  · split at k
    · rename_i ha
      exact one rfl hy ha k
    · exact k.elim
  · split at k
    · rename_i ha
      exact one rfl hy ha k
    · exact k.elim
  · split at k
    · rename_i ha
      split at k
      · rename_i hz
        exact .inr (.inr ⟨_, _, _, str_inv hx, int_inv hy, szl_line hz, ha, k.here R (.ofR rep_str)⟩)
      · exact k.elim
    · exact k.elim
  · exact k.elim
/-! ### slices -/
def cutD {α : Type} (l : List α) (lo hi : Option Int) : List α := (l.drop (HT.sIx l.length 0 lo)).take (HT.sIx l.length l.length hi - HT.sIx l.length 0 lo)
theorem cut_reps {T : Tx} {ρ : List Addr} {G : Hp} {l : List D} {vs : List V} {lo hi : Option Int} (r : Reps T ρ G vs l) : Reps T ρ G (cutV vs lo hi) (cutD l lo hi) := by
  unfold cutV cutD
  rw [r.length]
  exact (r.drop _).take _
theorem cut_len {α : Type} (l : List α) (lo hi : Option Int) : (cutD l lo hi).length ≤ l.length := by
  unfold cutD
  rw [List.length_take, List.length_drop]; omega
theorem slOr {r r' : V → Option Int → Option Int → Hp → VK → Prop} (h : L2.SlR X r) (h' : L2.SlR X r') : L2.SlR X (fun x lo hi H Q => r x lo hi H Q ∨ r' x lo hi H Q) :=
  fun pins s σ H x v vl vu lo hi sl Q I rx hs pl pu q => q.elim (h pins s σ H x v vl vu lo hi sl Q I rx hs pl pu) (h' pins s σ H x v vl vu lo hi sl Q I rx hs pl pu)
def rSl2 (K : PySem.W.Frag) : V → Option Int → Option Int → Hp → VK → Prop := fun x lo hi H Q => rSlL K x lo hi H Q ∨ rSlA K x lo hi H Q
theorem sl_two : L2.SlR X (rSl2 X.K) := slOr sl_list sl_tupA
def rdO (T : Tx) (B : Bs) (W : WX) (m : DEnv → Mu → Res (Option Int)) : TO := fun σ H Q => ∃ ρ G env μ, RD T B ρ G H σ env μ ∧ KE T B σ env W (fun _ _ H' _ o => Q o H') ρ G (m env μ)
structure DO (X : Cx) (B : Bs) (W : WX) (e : Option Expr) (m : DEnv → Mu → Res (Option Int)) : Prop where
  run : PO X e (rdO (tx X) B W m)
theorem poImp {e : Option Expr} {t t' : TO} (h : PO X e t) (i : ∀ σ H Q, t' σ H Q → t σ H Q) : PO X e t' := ⟨fun pins s σ H Q I q => h.run pins s σ H Q I (i σ H Q q)⟩
def dNoPart : DEnv → Mu → Res (Option Int) := fun _ μ => ret none μ
def fPart : D → Mu → Res (Option Int)
  | .int i, μ => ret (some i) μ
  | _, _ => none
def dPart (m : DEx) : DEnv → Mu → Res (Option Int) := fun env μ => bindR (m env μ) fPart
theorem do_none : DO X B W none dNoPart := ⟨poImp po_none fun σ H Q ⟨ρ, G, env, μ, R, k⟩ => k ρ G H (fun _ _ h => h) (.refl _) R⟩
theorem do_some {e : Expr} {m : DEx} (h : DE X B W e m) : DO X B W (some e) (dPart m) := by
  refine ⟨poImp (po_some h.run) fun σ H Q ⟨ρ, G, env, μ, R, k⟩ => rd_then (f := fPart) R k fun ρ1 G1 H1 μ1 x d s p R1 hx k1 => ?_⟩
  unfold fPart at k1
  split at k1
  · exact ⟨_, int_inv hx, k1 ρ1 G1 H1 (fun _ _ h => h) (.refl _) R1⟩
  · exact k1.elim
def fSl (d : D) (lo hi : Option Int) (μ : Mu) : Res D := match d with
  | .lst l => ret (.new (cutD l lo hi)) μ
  | .bor l => ret (.new (cutD l lo hi)) μ
  | .tup l => ret (.tup (cutD l lo hi)) μ
  | .scr l => ret (.new (cutD l lo hi)) μ
  | _ => none
def dSl (m : DEx) (lo hi : DEnv → Mu → Res (Option Int)) : DEx := fun env μ => bindR (m env μ) fun d μ => bindR (lo env μ) fun l μ => bindR (hi env μ) fun h μ => fSl (hold d) l h μ
theorem de_slice {e : Expr} {lo hi : Option Expr} {pos p2 : Pos} {m : DEx} {ml mh : DEnv → Mu → Res (Option Int)} (he : DE X B W e m) (hl : DO X B W lo ml) (hh : DO X B W hi mh) : DE X B W (.Subscript e (.Slice lo hi none p2) pos) (dSl m ml mh) := by
  refine ⟨peImp (pe_slice sl_two he.run hl.run hh.run) fun σ H Q ⟨ρ, G, env, μ, R, k⟩ => ?_⟩
  refine rd_then (f := fun d μ => bindR (ml env μ) fun l μ => bindR (mh env μ) fun h μ => fSl (hold d) l h μ) R k fun ρ1 G1 H1 μ1 x d s p R1 hx k1 => ?_
  refine ⟨ρ1, G1, env, μ1, R1, (KE.bind (f := fun l μ => bindR (mh env μ) fun h μ => fSl (hold d) l h μ) k1).imp fun ρ2 G2 H2 μ2 l s2 p2 R2 k2 => ?_⟩
  refine ⟨ρ2, G2, env, μ2, R2, (KE.bind (f := fun h μ => fSl (hold d) l h μ) k2).imp fun ρ3 G3 H3 μ3 h s3 p3 R3 k3 => ?_⟩
  have hx3 := (hx.mono s2 p2).mono s3 p3
  have one : ∀ {d : D} {l' : List D}, seqL d = some l' → HeldR (tx X) ρ3 G3 σ env x d → KE (tx X) B σ env W (PX (tx X) B σ env Q) ρ3 G3 (ret (.new (cutD l' l h)) μ3) → rSl2 X.K x l h H3 Q := fun {d l'} e hx k => by
    obtain ⟨a, us, rfl, q, z, r⟩ := seqL_inv R3 hx e
    exact .inl ⟨a, us, rfl, .of q, k.newL R3 (cut_reps r) (Nat.le_trans (cut_len _ _ _) z)⟩
  unfold fSl at k3
  split at k3
  · rename_i l' e; rw [e] at hx3; exact one rfl hx3 k3
  · rename_i l' e; rw [e] at hx3; exact one rfl hx3 k3
  · rename_i l' e
    rw [e] at hx3
    obtain ⟨a, us, rfl, q, z, r⟩ := tup_inv hx3
    have hlen := r.length
    refine .inr ⟨a, us, rfl, (sqG_mono R3.gh q).sq, fun ⟨h1, h2⟩ => ?_, fun _ => k3.newT R3 (cut_reps r) (Nat.le_trans (cut_len _ _ _) z)⟩
    have e1 : cutD l' l h = l' := by
      unfold cutD
      rw [← hlen, h1, h2]; simp [hlen]
    rw [e1] at k3
    exact k3.here R3 (.ofR (rep_tup q z r))
  · rename_i l' e
    rw [e] at hx3
    have hx3 : Rep (tx X) ρ3 G3 x (.scr l') := hx3
    unfold Rep at hx3
    obtain ⟨a, us, rfl, q, z, r⟩ := hx3
    exact .inl ⟨a, us, rfl, sqL_mono R3.gh q, k3.newL R3 (cut_reps r) (Nat.le_trans (cut_len _ _ _) z)⟩
  · exact k3.elim
end

/-! ### statements -/
inductive Fl where
  | nx | ret (d : D) | brk | ct
abbrev RS := Option (Out Fl × DEnv × Mu)
abbrev DSt := DEnv → Mu → RS
def KS (T : Tx) (B : Bs) (W : WX) (D : Ends) (ρ : List Addr) (G : Hp) : RS → Prop
  | some (.val .nx, env', μ') => ∀ σ' ρ' G' H', Same G G' → Pre ρ ρ' → RD T B ρ' G' H' σ' env' μ' → D.nx σ' H'
  | some (.val .brk, env', μ') => ∀ σ' ρ' G' H', Same G G' → Pre ρ ρ' → RD T B ρ' G' H' σ' env' μ' → D.bk σ' H'
  | some (.val .ct, env', μ') => ∀ σ' ρ' G' H', Same G G' → Pre ρ ρ' → RD T B ρ' G' H' σ' env' μ' → D.ct σ' H'
  | some (.val (.ret d), _, μ') => ∀ σ' env' ρ' G' H' v, Same G G' → Pre ρ ρ' → RD T B ρ' G' H' σ' env' μ' → RepX T B ρ' G' H' σ' env' v d → D.rt v H'
  | some (.exc x, env', μ') => ∀ σ' ρ' G' H' cls dd, Same G G' → Pre ρ ρ' → RD T B ρ' G' H' σ' env' μ' → ExR T ρ' G' H' cls dd x → W cls dd σ' H'
  | none => False
def rdS (T : Tx) (B : Bs) (W : WX) (m : DSt) : TS := fun D σ H => ∃ ρ G env μ, RD T B ρ G H σ env μ ∧ KS T B W D ρ G (m env μ)
structure DS (X : Cx) (B : Bs) (W : WX) (st : Stmt) (m : DSt) : Prop where
  run : PS X st (rdS (tx X) B W m)
structure DSs (X : Cx) (B : Bs) (W : WX) (sts : List Stmt) (m : DSt) : Prop where
  run : PSs X sts (rdS (tx X) B W m)
section
variable {X : Cx} {B : Bs} {W : WX} {T : Tx} {st : Stmt} {sts : List Stmt}
theorem psImp {t t' : TS} (h : PS X st t) (i : ∀ D σ H, t' D σ H → t D σ H) : PS X st t' := ⟨fun pins s σ H D I q => h.run pins s σ H D I (i D σ H q)⟩
theorem pssImp {t t' : TS} (h : PSs X sts t) (i : ∀ D σ H, t' D σ H → t D σ H) : PSs X sts t' := ⟨fun pins s σ H D I q => h.run pins s σ H D I (i D σ H q)⟩
theorem KS.weak {D : Ends} {ρ ρ' : List Addr} {G G' : Hp} {r : RS} (h : KS T B W D ρ G r) (s : Same G G') (p : Pre ρ ρ') : KS T B W D ρ' G' r := by
  match r, h with
  | some (.val .nx, env, μ), h => exact fun σ2 ρ2 G2 H2 s2 p2 R => h σ2 ρ2 G2 H2 (s.trans s2) (p.trans p2) R
  | some (.val .brk, env, μ), h => exact fun σ2 ρ2 G2 H2 s2 p2 R => h σ2 ρ2 G2 H2 (s.trans s2) (p.trans p2) R
  | some (.val .ct, env, μ), h => exact fun σ2 ρ2 G2 H2 s2 p2 R => h σ2 ρ2 G2 H2 (s.trans s2) (p.trans p2) R
  | some (.val (.ret d), env, μ), h => exact fun σ2 e2 ρ2 G2 H2 v s2 p2 R => h σ2 e2 ρ2 G2 H2 v (s.trans s2) (p.trans p2) R
  | some (.exc x, env, μ), h => exact fun σ2 ρ2 G2 H2 c d s2 p2 R => h σ2 ρ2 G2 H2 c d (s.trans s2) (p.trans p2) R
/-- a value, then a statement's rest -/
@[reducible] def bindS {α : Type} (env : DEnv) (r : Res α) (f : α → Mu → RS) : RS := match r with
  | some (.val a, μ) => f a μ
  | some (.exc x, μ) => some (.exc x, env, μ)
  | none => none
theorem KS.bind {α : Type} {D : Ends} {ρ : List Addr} {G : Hp} {σ : L2.St} {env : DEnv} {r : Res α} {f : α → Mu → RS} (h : KS T B W D ρ G (bindS env r f)) : KE T B σ env W (fun ρ1 G1 _ μ1 a => KS T B W D ρ1 G1 (f a μ1)) ρ G r := by
  match r, h with
  | some (.val a, μ), h => exact fun ρ2 G2 H2 s2 p2 R => KS.weak (r := f a μ) h s2 p2
  | some (.exc x, μ), h => exact fun ρ2 G2 H2 c d s2 p2 R e => h σ ρ2 G2 H2 c d s2 p2 R e
def dSkip : DSt := fun env μ => some (.val .nx, env, μ)
def dSeq (a b : DSt) : DSt := fun env μ => match a env μ with
  | some (.val .nx, env', μ') => b env' μ'
  | r => r
theorem dss_nil : DSs X B W [] dSkip := ⟨pssImp pss_nil fun D σ H ⟨ρ, G, env, μ, R, k⟩ => k σ ρ G H (fun _ _ h => h) (.refl _) R⟩
theorem dss_cons {a b : DSt} (h : DS X B W st a) (g : DSs X B W sts b) : DSs X B W (st :: sts) (dSeq a b) := by
  refine ⟨pssImp (pss_cons h.run g.run) fun D σ H ⟨ρ, G, env, μ, R, k⟩ => ⟨ρ, G, env, μ, R, ?_⟩⟩
  unfold dSeq at k
  cases hr : a env μ with
  | none => rw [hr] at k; exact k.elim
  | some q =>
    obtain ⟨o, e', μ'⟩ := q
    rw [hr] at k
    cases o with
    | exc x => exact k
    | val f =>
      cases f with
      | nx => exact fun σ' ρ' G' H' s p R' => ⟨ρ', G', e', μ', R', KS.weak (r := b e' μ') k s p⟩
      | ret d => exact k
      | brk => exact k
      | ct => exact k
theorem dss_one {a : DSt} (h : DS X B W st a) : DSs X B W [st] a := ⟨pss_one h.run⟩
/-! ### small ones -/
theorem ds_pass {pos : Pos} : DS X B W (.Pass pos) dSkip := ⟨psImp ps_pass fun D σ H ⟨ρ, G, env, μ, R, k⟩ => k σ ρ G H (fun _ _ h => h) (.refl _) R⟩
def dBreak : DSt := fun env μ => some (.val .brk, env, μ)
def dCont : DSt := fun env μ => some (.val .ct, env, μ)
theorem ds_break {pos : Pos} : DS X B W (.Break pos) dBreak := ⟨psImp ps_break fun D σ H ⟨ρ, G, env, μ, R, k⟩ => k σ ρ G H (fun _ _ h => h) (.refl _) R⟩
theorem ds_cont {pos : Pos} : DS X B W (.Continue pos) dCont := ⟨psImp ps_continue fun D σ H ⟨ρ, G, env, μ, R, k⟩ => k σ ρ G H (fun _ _ h => h) (.refl _) R⟩
def unbor : D → D
  | .bor l => .new l
  | d => d
def dRet (m : DEx) : DSt := fun env μ => bindS env (m env μ) fun d μ => some (.val (.ret (unbor d)), env, μ)
/-- a list of one's own is given away -/
theorem RepX.unbor {ρ : List Addr} {G H : Hp} {σ : L2.St} {env : DEnv} {μ : Mu} {v : V} {d : D} (R : RD T B ρ G H σ env μ) (h : RepX T B ρ G H σ env v d) : ∃ env', RD T B ρ G H σ env' μ ∧ RepX T B ρ G H σ env' v (unbor d) := by
  cases d with
  | bor l =>
    obtain ⟨i, p, e1, e2, rfl⟩ := h
    obtain ⟨p', vs, e3, e4, e5, e6, e7, e8, e9⟩ := R.slot i _ e1
    rw [e2] at e3; cases e3
    have R' : RD T B ρ G H (σ.set i (some (.ref p))) (env.set i .no) μ := R.setG (fun _ => by simp) fun d' e => by cases e
    have eσ : σ.set i (some (.ref p)) = σ := by
      apply List.ext_getElem?
      intro j
      by_cases q : i = j
      · subst q
        rw [List.getElem?_set_self (List.getElem?_eq_some_iff.mp e2).1, e2]
      · rw [List.getElem?_set_ne q]
    rw [eσ] at R'
    refine ⟨env.set i .no, R', p, vs, rfl, e4, e5, e6, e7, e8, e9, fun j l' h1 h2 => ?_, fun q hq e => ?_⟩
    · obtain ⟨n, o⟩ := own_of_set (fun _ => by simp) h1
      exact n (R.own j i l' l p o e1 h2 e2)
    · have z := (R.xo q hq).2.2.2.2 i l e1
      rw [e] at z
      exact z e2
  | _ => exact ⟨env, R, h⟩
theorem ds_ret {e : Expr} {m : DEx} {pos : Pos} (h : DE X B W e m) : DS X B W (.Return (some e) pos) (dRet m) := by
  refine ⟨psImp (ps_ret h.run) fun D σ H ⟨ρ, G, env, μ, R, k⟩ => ⟨ρ, G, env, μ, R, (KS.bind k).imp fun ρ1 G1 H1 μ1 d s p R1 k1 v hv => ?_⟩⟩
  obtain ⟨env', R2, h2⟩ := hv.unbor R1
  exact k1 σ env' ρ1 G1 H1 v (fun _ _ h => h) (.refl _) R2 h2
def dRetN : DSt := fun env μ => some (.val (.ret .non), env, μ)
theorem ds_retN {pos : Pos} : DS X B W (.Return none pos) dRetN := ⟨psImp ps_retN fun D σ H ⟨ρ, G, env, μ, R, k⟩ => k σ env ρ G H .non (fun _ _ h => h) (.refl _) R (.ofR rep_non)⟩
def dDrop (m : DEx) : DSt := fun env μ => bindS env (m env μ) fun _ μ => some (.val .nx, env, μ)
theorem ds_expr {e : Expr} {m : DEx} {pos : Pos} (h : DE X B W e m) (hs : swapsWith e none pos.line X.env = pure false := by rfl) : DS X B W (.Expr e pos) (dDrop m) :=
  ⟨psImp (ps_expr h.run hs) fun D σ H ⟨ρ, G, env, μ, R, k⟩ => ⟨ρ, G, env, μ, R, (KS.bind k).imp fun ρ1 G1 H1 μ1 d s p R1 k1 v hv => k1 σ ρ1 G1 H1 (fun _ _ h => h) (.refl _) R1⟩⟩
def dIfS (t : DEnv → Mu → Res Bool) (a b : DSt) : DSt := fun env μ => bindS env (t env μ) fun c μ => if c = true then a env μ else b env μ
theorem ds_if {c : Expr} {t : DEnv → Mu → Res Bool} {s1 s2 : List Stmt} {a b : DSt} {pos : Pos} (hc : DT X B W c t) (h1 : DSs X B W s1 a) (h2 : DSs X B W s2 b) : DS X B W (.If c s1 s2 pos) (dIfS t a b) := by
  refine ⟨psImp (ps_if hc.run h1.run h2.run) fun D σ H ⟨ρ, G, env, μ, R, k⟩ => ⟨ρ, G, env, μ, R, (KS.bind k).imp fun ρ1 G1 H1 μ1 c s p R1 k1 => ?_⟩⟩
  cases c with
  | true => exact ⟨ρ1, G1, env, μ1, R1, k1⟩
  | false => exact ⟨ρ1, G1, env, μ1, R1, k1⟩
/-! ### stores -/
def dAsg (m : DEx) (t : DTg) : DSt := fun env μ => bindS env (m env μ) fun d μ => if nobor d then (match t env (hold d) with
    | some env' => some (.val .nx, env', μ)
    | none => none) else none
theorem ds_asgG {te : TE} {g : TG} {m : DEx} {t : DTg} {is : List Nat} (h : PS X st (tAsg te g)) (i : ∀ σ H Q, rdE (tx X) B W m σ H Q → te σ H Q) (gd : GD X.K X.mg g t is) : DS X B W st (dAsg m t) := by
  refine ⟨psImp h fun D σ H ⟨ρ, G, env, μ, R, k⟩ => i σ H _ ⟨ρ, G, env, μ, R, (KS.bind k).imp fun ρ1 G1 H1 μ1 d s p R1 k1 v hv => ?_⟩⟩
  split at k1
  · rename_i hb
    split at k1
    · rename_i env' he
      obtain ⟨G2, s2, R2, h2⟩ := hv.hold R1
      exact gd.ok B ρ1 G2 H1 σ env μ1 v _ env' _ R2 (h2.rep (hold_nobor hb)) he fun σ' R3 _ _ => k1 σ' ρ1 G2 H1 s2 (.refl _) R3
    · exact k1.elim
  · exact k1.elim
theorem ds_set {i : Nat} {x : Str} {e : Expr} {m : DEx} {pos pos' : Pos} (hN : X.N.Nodup) (hi : X.N[i]? = some x) (hx : Loc X.env.scope x) (he : DE X B W e m) (hs : swapsWith e (some (.Name x pos')) pos.line X.env = pure false := by rfl)
    (hf : X.fn x = true ∨ X.env.scope.names.lookup x = some .local := by first | exact .inl rfl | exact .inr rfl | assumption) : DS X B W (.Assign [.Name x pos'] e pos) (dAsg m (tName i)) :=
  ds_asgG (ps_set hN hi hx he.run hs hf) (fun _ _ _ h => h) gd_name
/-! ### for -/
def forRun (tg : DTg) (body : DSt) : List D → DEnv → Mu → RS
  | [], env, μ => some (.val .nx, env, μ)
  | d :: ds, env, μ => (match tg env d with
    | none => none
    | some env1 => (match body env1 μ with
      | some (.val .nx, env2, μ2) => forRun tg body ds env2 μ2
      | some (.val .ct, env2, μ2) => forRun tg body ds env2 μ2
      | some (.val .brk, env2, μ2) => some (.val .nx, env2, μ2)
      | r => r))
def dFor (it : DEnv → Mu → Res (List D)) (tg : DTg) (body : DSt) : DSt := fun env μ => bindS env (it env μ) fun ds μ => forRun tg body ds env μ
theorem rd_for {J : It} {g : TG} {tg : DTg} {is : List Nat} {body : DSt} {De : Ends} {ρ1 : List Addr} {G1 H1 : Hp} {σ : L2.St} {env : DEnv} {μ1 : Mu} {ds : List D} (gd : GD T.K T.mg g tg is) (R1 : RD T B ρ1 G1 H1 σ env μ1) (wk : WalkD T J ρ1 G1 ds)
    (k : KS T B W De ρ1 G1 (forRun tg body ds env μ1)) : ∃ Wv : Nat → Nat → L2.St → Hp → Prop, (∃ m, Wv 0 m σ H1) ∧ ∀ i m σ H, Wv i m σ H →
      (J.stop i H ∧ De.nx σ H) ∨ (J.go i H ∧ ∃ N : L2.St → Hp → Prop, (∀ σ' H', N σ' H' → ∃ m', m' < m ∧ Wv (i + 1) m' σ' H') ∧ ∀ x H', J.yld i H x H' → g x σ H' fun σ2 H2 => rdS T B W body { De with nx := N, ct := N, bk := De.nx } σ2 H2) := by
  refine ⟨fun i m σ H => ∃ ρ' G' env' μ', m = ds.length - i ∧ i ≤ ds.length ∧ Same G1 G' ∧ Pre ρ1 ρ' ∧ RD T B ρ' G' H σ env' μ' ∧ KS T B W De ρ' G' (forRun tg body (ds.drop i) env' μ'), ⟨ds.length, ρ1, G1, env, μ1, by omega, Nat.zero_le _, fun _ _ h => h, .refl _, R1, k⟩, ?_⟩
  rintro i m σ' H' ⟨ρ', G', env', μ', rfl, hi, s, p, R, k⟩
  by_cases hlt : i < ds.length
  · have hd : ds[i]? = some ds[i] := by simp [hlt]
    obtain ⟨jg, jy⟩ := wk.go i _ hd ρ' G' H' s p R.gh
    refine .inr ⟨jg, fun σ2 H2 => ∃ ρ2 G2 env2 μ2, Same G1 G2 ∧ Pre ρ1 ρ2 ∧ RD T B ρ2 G2 H2 σ2 env2 μ2 ∧ KS T B W De ρ2 G2 (forRun tg body (ds.drop (i + 1)) env2 μ2),
      fun σ2 H2 ⟨ρ2, G2, env2, μ2, h1, h2, h3, h4⟩ => ⟨ds.length - (i + 1), by omega, ρ2, G2, env2, μ2, rfl, hlt, h1, h2, h3, h4⟩, fun x H'' hy => ?_⟩
    have item : ∃ G2, Same G' G2 ∧ RD T B ρ' G2 H'' σ' env' μ' ∧ Rep T ρ' G2 x ds[i] := by
      rcases jy x H'' hy with ⟨e, r⟩ | ⟨q, ws, l', hn, e, ex, ed, r, z⟩
      · exact ⟨G', fun _ _ h => h, by rw [e]; exact R, r⟩
      · have gn := (R.fresh_ hn).1
        exact ⟨_, same_upd gn, by rw [e]; exact R.alloc hn, by rw [ex, ed]; exact rep_tup (.inl upd_same) z (r.mono (same_upd gn) (.refl _))⟩
    obtain ⟨G2, s2, R2, rx⟩ := item
    rw [List.drop_eq_getElem_cons hlt] at k
    unfold forRun at k
    split at k
    · exact k.elim
    · rename_i env1 he1
      refine gd.ok B ρ' G2 H'' σ' env' μ' x _ env1 _ R2 rx he1 fun σ2 R3 _ _ => ⟨ρ', G2, env1, μ', R3, ?_⟩
      split at k
      · rename_i env2 μ2 hb
        rw [hb]
        exact fun σ3 ρ3 G3 H3 s3 p3 R4 => ⟨ρ3, G3, env2, μ2, (s.trans s2).trans s3, p.trans p3, R4, k.weak (s2.trans s3) p3⟩
      · rename_i env2 μ2 hb
        rw [hb]
        exact fun σ3 ρ3 G3 H3 s3 p3 R4 => ⟨ρ3, G3, env2, μ2, (s.trans s2).trans s3, p.trans p3, R4, k.weak (s2.trans s3) p3⟩
      · rename_i env2 μ2 hb
        rw [hb]
        exact fun σ3 ρ3 G3 H3 s3 p3 R4 => k σ3 ρ3 G3 H3 (s2.trans s3) p3 R4
      · rename_i n1 n2 n3
        cases hb : body env1 μ' with
        | none => rw [hb] at k; exact k.elim
        | some q =>
          obtain ⟨o, e2, μ2⟩ := q
          rw [hb] at k
          cases o with
          | exc x => exact fun σ3 ρ3 G3 H3 c d s3 p3 R4 => k σ3 ρ3 G3 H3 c d (s2.trans s3) p3 R4
          | val f =>
            cases f with
            | nx => exact absurd hb (n1 _ _)
            | ct => exact absurd hb (n2 _ _)
            | brk => exact absurd hb (n3 _ _)
            | ret d => exact fun σ3 e3 ρ3 G3 H3 v s3 p3 R4 => k σ3 e3 ρ3 G3 H3 v (s2.trans s3) p3 R4
  · have e : i = ds.length := by omega
    subst e
    rw [List.drop_length] at k
    exact .inl ⟨wk.stop ρ' G' H' s p R.gh, k σ' ρ' G' H' (fun _ _ h => h) (.refl _) R⟩
theorem ds_for {tg iter : Expr} {body : List Stmt} {it : DEnv → Mu → Res (List D)} {g : TG} {t : DTg} {is : List Nat} {b : DSt} {pos : Pos} (hp : PassesOwn (model X.prog X.w) X.A X.env X.xe) (hc : X.calm = true) (hi : DI X B W tg iter it) (hg : PG X tg g) (gd : GD X.K X.mg g t is) (hb : DSs X B W body b)
    (hs : ∀ x, foldedSetIterable iter X.env x = pure x := by intro _; rfl) : DS X B W (.For tg iter body [] pos) (dFor it t b) :=
  ⟨psImp (ps_for hp hc hi.run hg hb.run hs) fun D σ H ⟨ρ, G, env, μ, R, k⟩ => ⟨ρ, G, env, μ, R, (KS.bind k).imp fun ρ1 G1 H1 μ1 ds s p R1 k1 J wk => rd_for gd R1 wk k1⟩⟩
end
end Dv

/-! DvI: what a def means; a def by its body; calls. -/
namespace Dv
open PySem PySem.Spec PyProof.Rows L2
abbrev Fn := List D → Mu → Res D
/-- a call's value: a list of nobody's, or what is frozen -/
def RepO (T : Tx) (ρ : List Addr) (G H H0 : Hp) (v : V) : D → Prop
  | .new l => ∃ (p : Addr) (vs : List V), v = .ref p ∧ H p = some (.lst vs) ∧ Reps T ρ G vs l ∧ szl l.length ∧ G p = none ∧ p ∉ ρ ∧ H0 p = none
  | d => Rep T ρ G v d
def KC (T : Tx) (ρ : List Addr) (G H : Hp) (Q : VK) (E : XK) : Res D → Prop
  | some (.val d, μ') => ∀ v ρ' G' H', Ext ρ G H ρ' G' H' → Same G' H' → StR T ρ' G' H' μ' → RepO T ρ' G' H' H v d → Q v H'
  | some (.exc x, μ') => ∀ cls dd ρ' G' H', Ext ρ G H ρ' G' H' → Same G' H' → StR T ρ' G' H' μ' → ExR T ρ' G' H' cls dd x → E cls dd H'
  | none => False
def spD (T : Tx) (n : Nat) (m : Fn) : Sp := fun vs H Q E => vs.length = n ∧ ∃ ρ G ds μ, Same G H ∧ StR T ρ G H μ ∧ Reps T ρ G vs ds ∧ KC T ρ G H Q E (m ds μ)
/-- a def's meaning by its body's -/
def endD : RS → Res D
  | some (.val (.ret d), _, μ) => some (.val d, μ)
  | some (.val .nx, _, μ) => some (.val .non, μ)
  | some (.exc x, _, μ) => some (.exc x, μ)
  | _ => none
def envD (n : Nat) (ds : List D) : DEnv := ds.map SV.v ++ List.replicate (n - ds.length) .no
def defD (n : Nat) (body : DSt) : Fn := fun ds μ => endD (body (envD n ds) μ)
section
variable {T : Tx} {ρ : List Addr} {G H : Hp} {μ : Mu}
theorem start_rd {N : List Str} {vs : List V} {ds : List D} (gh : Same G H) (st : StR T ρ G H μ) (r : Reps T ρ G vs ds) : RD T ⟨H, G, ρ, []⟩ ρ G H (L2.start N vs) (envD N.length ds) μ := by
  have hl := r.length
  have noown : ∀ (i : Nat) (l : List D), (envD N.length ds)[i]? ≠ some (.own l) := by
    intro i l h
    unfold envD at h
    by_cases hi : i < ds.length
    · rw [List.getElem?_append_left (by simpa using hi), List.getElem?_map] at h
      cases e : ds[i]? with
      | none => rw [e] at h; cases h
      | some d => rw [e] at h; cases h
    · rw [List.getElem?_append_right (by simpa using hi), List.getElem?_replicate] at h
      split at h <;> cases h
  refine ⟨gh, .refl _ _ _, by simp [envD, L2.start, hl], fun i s hs => ?_, fun i j l l' p h1 => absurd h1 (noown i l), st, fun q hq => absurd hq List.not_mem_nil, List.nodup_nil⟩
  unfold envD at hs
  by_cases hi : i < ds.length
  · rw [List.getElem?_append_left (by simpa using hi), List.getElem?_map] at hs
    cases e : ds[i]? with
    | none => rw [e] at hs; cases hs
    | some d =>
      rw [e] at hs
      cases hs
      obtain ⟨v, e1, e2⟩ := r.get e
      refine ⟨v, ?_, e2⟩
      unfold L2.start
      rw [List.getElem?_append_left (by rw [List.length_map]; omega), List.getElem?_map, e1]; rfl
  · rw [List.getElem?_append_right (by simpa using hi), List.getElem?_replicate] at hs
    split at hs
    · cases hs; trivial
    · cases hs
theorem repO_of {B : Bs} {σ : L2.St} {env : DEnv} {v : V} {d : D} (h : RepX T B ρ G H σ env v d) (n : nobor d = true) : RepO T ρ G H B.H0 v d := by
  cases d with
  | new l =>
    obtain ⟨p, vs, e1, e2, e3, e4, e5, e6, e7, _⟩ := h
    exact ⟨p, vs, e1, e2, e3, e4, e5, e6, e7⟩
  | bor l => cases n
  | _ => exact h
end
section
variable {P : Program} {w : World} {K : PySem.W.Frag} {mg : Str → Option Value} {base : Heap} {x qual : Str} {params : Arguments} {body : List Stmt} {scope : Scope} {dvs : List V} {kws : List (Str × V)} {f : Addr} {fd : FuncData}
/-- nothing borrowed is handed back -/
def cleanD (m : Fn) : Fn := fun ds μ => match m ds μ with
  | some (.val d, μ') => if nobor d then some (.val d, μ') else none
  | r => r
theorem def_ok {N ps : List Str} {k : Nat} {m : DSt} (F : FunD K x qual params body scope dvs kws f fd) (S : FnScope N ps scope)
    (hbody : ∀ (cdv : Value) (A : Around) (outer : List Env) (s : Shared) (H : Hp) (E : XK) (B : Bs), Room k (A.deeper (envOfC qual scope s.heap.objs.size f cdv)) → DSs (cxOf (L2.CX P w) P w K mg base N qual scope f cdv A outer s H E) B (fun cls d _ H => E cls d H) body m) :
    FnOk P w K mg base (L2.CX P w) (k + 1) f fd ps (spD ⟨K, mg⟩ ps.length (cleanD (defD N.length m))) := by
  refine F.ok S (fun vs H Q E h => h.1) fun cdv A outer s H vs Q E hr h => ?_
  obtain ⟨hl, ρ, G, ds, μ, gh, st, rs, k⟩ := h
  refine ⟨_, (hbody cdv A outer s H E ⟨H, G, ρ, []⟩ hr).run, ρ, G, envD N.length ds, μ, start_rd gh st rs, ?_⟩
  unfold cleanD defD at k
  cases e : m (envD N.length ds) μ with
  | none => rw [e] at k; exact k.elim
  | some q =>
    obtain ⟨o, env', μ'⟩ := q
    rw [e] at k
    cases o with
    | exc x => exact fun σ' ρ' G' H' cls dd s p R er => k cls dd ρ' G' H' R.ext R.gh R.st er
    | val fl =>
      cases fl with
      | nx => exact fun σ' ρ' G' H' s p R => k .non ρ' G' H' R.ext R.gh R.st (show Rep _ _ _ _ _ from rep_non)
      | ret d =>
        have k : KC ⟨K, mg⟩ ρ G H Q E (if nobor d then some (.val d, μ') else none) := k
        split at k
        · rename_i hb
          exact fun σ' env2 ρ' G' H' v s p R hv => k v ρ' G' H' R.ext R.gh R.st (repO_of hv hb)
        · exact k.elim
      | brk => exact k.elim
      | ct => exact k.elim
end
/-! ### calls -/
section
variable {X : Cx} {B : Bs} {W : WX}
/-- behind a call all is as it was but the store -/
theorem RD.after {T : Tx} {ρ ρ' : List Addr} {G G' H H' : Hp} {σ : L2.St} {env : DEnv} {μ μ' : Mu} (R : RD T B ρ G H σ env μ) (e : Ext ρ G H ρ' G' H') (gh : Same G' H') (st : StR T ρ' G' H' μ') : RD T B ρ' G' H' σ env μ' := by
  have keep : ∀ {p : Addr} {o : HO}, H p = some o → G p = none → p ∉ ρ → H' p = some o ∧ G' p = none ∧ p ∉ ρ' := fun {p o} h g n => by
    refine ⟨e.old h n, ?_, fun m => ?_⟩
    · cases q : G' p with
      | none => rfl
      | some o' => have := e.fg p o' q g; rw [h] at this; cases this
    · have := e.fr p m n; rw [h] at this; cases this
  refine ⟨gh, R.ext.trans e, R.len, fun i s hs => ?_, R.own, st, fun q hq => ?_, R.xn⟩
  · have h := R.slot i s hs
    cases s with
    | no => trivial
    | v d =>
      obtain ⟨v, e1, e2⟩ := h
      exact ⟨v, e1, e2.mono e.gg e.pre⟩
    | own l =>
      obtain ⟨p, vs, e1, e2, e3, e4, e5, e6, e7⟩ := h
      obtain ⟨k1, k2, k3⟩ := keep e2 e5 e6
      exact ⟨p, vs, e1, k1, e3.mono e.gg e.pre, e4, k2, k3, e7⟩
  · obtain ⟨e1, e2, e3, e4⟩ := R.xo q hq
    obtain ⟨k1, k2, k3⟩ := keep e1 e2 e3
    exact ⟨k1, k2, k3, e4⟩
theorem repX_after {T : Tx} {ρ ρ' : List Addr} {G G' H H' : Hp} {σ : L2.St} {env : DEnv} {μ : Mu} (R : RD T B ρ G H σ env μ) {v : V} {d : D} (h : RepO T ρ' G' H' H v d) : RepX T B ρ' G' H' σ env v d := by
  cases d with
  | new l =>
    obtain ⟨p, vs, e1, e2, e3, e4, eg, e5, e6⟩ := h
    refine ⟨p, vs, e1, e2, e3, e4, eg, e5, R.ext.none e6, fun i l' h1 h2 => ?_, fun q hq e => ?_⟩
    · obtain ⟨p', us, q1, q2, _⟩ := R.slot i _ h1
      rw [h2] at q1; cases q1
      rw [e6] at q2; cases q2
    · have z := (R.xo q hq).1
      rw [e, e6] at z; cases z
  | bor l => exact (show False from by unfold RepO Rep at h; exact h).elim
  | _ => exact h
/-- a call with values -/
theorem kc_of {T : Tx} {m : Fn} {ρ : List Addr} {G H : Hp} {σ : L2.St} {env : DEnv} {μ : Mu} {Q : VK} {ds : List D} (R : RD T B ρ G H σ env μ) (k : KE T B σ env W (PX T B σ env Q) ρ G (m ds μ)) : KC T ρ G H Q (fun cls d H => W cls d σ H) (m ds μ) := by
  cases e : m ds μ with
  | none => rw [e] at k; exact k.elim
  | some q =>
    obtain ⟨o, μ'⟩ := q
    rw [e] at k
    cases o with
    | val d => exact fun v ρ' G' H' ex gh st ro => k ρ' G' H' ex.gg ex.pre (R.after ex gh st) v (repX_after R ro)
    | exc x => exact fun cls dd ρ' G' H' ex gh st er => k ρ' G' H' cls dd ex.gg ex.pre (R.after ex gh st) er
def fCall (n : Nat) (m : Fn) : FA := fun ds μ => if ds.length = n ∧ ds.all nobor = true then m ds μ else none
theorem sp_call {T : Tx} {n : Nat} {m : Fn} {ρ : List Addr} {G H : Hp} {σ : L2.St} {env : DEnv} {μ : Mu} {Q : VK} {ds : List D} {vs : List V} (R : RD T B ρ G H σ env μ) (hv : HReps T ρ G σ env vs ds) (k : KE T B σ env W (PX T B σ env Q) ρ G (fCall n m ds μ)) :
    spD T n m vs H Q (fun cls d H => W cls d σ H) := by
  unfold fCall at k
  split at k
  · rename_i h
    have r := hv.reps h.2
    exact ⟨by rw [r.length, h.1], ρ, G, ds, μ, R.gh, R.st, r, kc_of R k⟩
  · exact k.elim
theorem de_call {k n : Nat} {f : Addr} {fd : FuncData} {ps : List Str} {m : Fn} {x : Str} {p pos : Pos} {e : Expr} {es : List Expr} {na : DEnv → Mu → Res (List D)} {ds : List Value} {dvs : List V} (F : FnOk X.prog X.w X.K X.mg X.base (L2.CX X.prog X.w) k f fd ps (spD (tx X) n m)) (hr : Room k X.A) (tk : Takes X W) (hg : Gl X x) (hm : X.mg x = some (.ref f)) (hk : PySem.W.keepIn X.K (.ref f) = true)
    (hb : Binds X.K fd ps []) (ha : DA X B W (e :: es) na) (hdb : (x == ("__debug__" : Str)) = false := by decide) (he : starEach (e :: es) X.env = (false, eval e X.env) :: starEach es X.env := by rfl) (hpl : (backTo pos (starEach es X.env)).any (·.1) = false := by rfl) :
    DE X B W (.Call (.Name x p) (e :: es) [] pos) (dCall (fCall n m) na) := by
  refine ⟨peImp (pe_callSD (E := fun σ cls d H => W cls d σ H) F hr hg hm hk hb .nil (fun σ => passAt tk σ) ha.run hdb he hpl) fun σ H Q ⟨ρ, G, env, μ, R, k⟩ => ?_⟩
  refine ⟨ρ, G, env, μ, R, (KE.bind (f := fCall n m) k).imp fun ρ1 G1 H1 μ1 ds s p R1 k1 vs hvs => ?_⟩
  show spD (tx X) n m (vs ++ []) H1 Q _
  rw [List.append_nil]
  exact sp_call R1 hvs k1
/-! ### keywords -/
structure DK (X : Cx) (B : Bs) (W : WX) (kws : List Keyword) (m : DEnv → Mu → Res (List D)) : Prop where
  run : PK X kws (rdA (tx X) B W m)
theorem pkImp {kws : List Keyword} {t t' : TA} (h : PK X kws t) (i : ∀ σ H Q, t' σ H Q → t σ H Q) : PK X kws t' := ⟨fun pos pins s σ H Q I q => h.run pos pins s σ H Q I (i σ H Q q)⟩
theorem dk_nil : DK X B W [] dNil := ⟨pkImp pk_nil fun σ H Q ⟨ρ, G, env, μ, R, k⟩ => k ρ G H (fun _ _ h => h) (.refl _) R [] .nil⟩
theorem dk_cons {nm : Option Str} {e : Expr} {kpos : Pos} {kws : List Keyword} {m : DEx} {n : DEnv → Mu → Res (List D)} (h : DE X B W e m) (g : DK X B W kws n) : DK X B W (⟨nm, e, kpos⟩ :: kws) (dCons m n) := by
  refine ⟨pkImp (pk_cons h.run g.run) fun σ H Q ⟨ρ, G, env, μ, R, k⟩ => ?_⟩
  refine rd_then (f := fun d μ => bindR (n env μ) fun ds μ => ret (hold d :: ds) μ) R k fun ρ1 G1 H1 μ1 x d s p R1 hx k1 => ?_
  refine ⟨ρ1, G1, env, μ1, R1, (KE.bind (f := fun ds μ => ret (hold d :: ds) μ) k1).imp fun ρ2 G2 H2 μ2 ds s2 p2 R2 k2 vs hvs => ?_⟩
  exact k2 ρ2 G2 H2 (fun _ _ h => h) (.refl _) R2 _ (.cons (hx.mono s2 p2) hvs)
theorem HReps.append {T : Tx} {ρ : List Addr} {G : Hp} {σ : L2.St} {env : DEnv} {vs us : List V} {ds es : List D} (h : HReps T ρ G σ env vs ds) (g : HReps T ρ G σ env us es) : HReps T ρ G σ env (vs ++ us) (ds ++ es) := by
  induction h with
  | nil => exact g
  | cons a _ ih => exact .cons a ih
def dCallK (f : FA) (n l : Nat) (na nk : DEnv → Mu → Res (List D)) : DEx := fun env μ => bindR (na env μ) fun ds μ => bindR (nk env μ) fun es μ => if ds.length = n ∧ es.length = l then f (ds ++ es) μ else none
/-- f(a, .., k = b, ..), the keywords in the parameters' order behind the others -/
theorem de_callK {k n0 n : Nat} {f : Addr} {fd : FuncData} {ps ks : List Str} {m : Fn} {x : Str} {p pos : Pos} {e : Expr} {es : List Expr} {kws : List Keyword} {na nk : DEnv → Mu → Res (List D)} (F : FnOk X.prog X.w X.K X.mg X.base (L2.CX X.prog X.w) k f fd ps (spD (tx X) n m)) (hr : Room k X.A) (tk : Takes X W) (hg : Gl X x) (hm : X.mg x = some (.ref f)) (hk : PySem.W.keepIn X.K (.ref f) = true)
    (hb : KBn X.K fd ps n0 ks (fun us ws => us ++ ws) (fun us ws => us ++ ws)) (ha : DA X B W (e :: es) na) (hkw : DK X B W kws nk) (hall : (backToKw pos (keywordEach kws X.env)).all (·.1.isSome) = true := by rfl) (hks : (backToKw pos (keywordEach kws X.env)).filterMap (·.1) = ks := by rfl)
    (hdb : (x == ("__debug__" : Str)) = false := by decide) (he : starEach (e :: es) X.env = (false, eval e X.env) :: starEach es X.env := by rfl)
    (hpl : ((backTo pos (starEach (e :: es) X.env)).any (·.1) || (backToKw pos (keywordEach kws X.env)).any (·.1.isNone)) = false := by rfl) :
    DE X B W (.Call (.Name x p) (e :: es) kws pos) (dCallK (fCall n m) n0 ks.length na nk) := by
  refine ⟨⟨fun pins s σ H Q I ⟨ρ, G, env, μ, R, k⟩ => ?_⟩⟩
  refine wpAny_Call_Name_kw (ld_glob I hg hm ?_ hdb)
  have h1 := (KE.bind (f := fun ds μ => bindR (nk env μ) fun es μ => if ds.length = n0 ∧ es.length = ks.length then fCall n m (ds ++ es) μ else none) k)
  refine PySem.W.callWith_KW (h₀ := X.base) I.ok.mod.kin hk hall (thn (ha.run.run pos pins s σ H (fun vs H1 => rdA (tx X) B W nk σ H1 fun zs H2 => vs.length = n0 ∧ zs.length = ks.length ∧ spD (tx X) n m (vs ++ zs) H2 Q (fun cls d H => W cls d σ H)) I ⟨ρ, G, env, μ, R, h1.imp fun ρ1 G1 H1 μ1 ds s p R1 k1 vs hvs => ?_⟩) fun us s1 ⟨vs, H1, I1, r, q⟩ => ?_) hpl he
  · refine ⟨ρ1, G1, env, μ1, R1, (KE.bind (f := fun es μ => if ds.length = n0 ∧ es.length = ks.length then fCall n m (ds ++ es) μ else none) k1).imp fun ρ2 G2 H2 μ2 es s2 p2 R2 k2 zs hzs => ?_⟩
    split at k2
    · rename_i hl
      exact ⟨by rw [hvs.length, hl.1], by rw [hzs.length, hl.2], sp_call R2 ((hvs.mono s2 p2).append hzs) k2⟩
    · exact k2.elim
  · refine thn (hkw.run.run pos pins s1 σ H1 _ I1 q) fun ws s2 ⟨zs, H2, I2, rz, l1, l2, q2⟩ => ⟨I2.kIn, ?_⟩
    rw [hks]
    have r2 : Vals (vs ++ zs) (us ++ ws) := hb.rel r rz
    refine wpAny_call (codeAny_mono (F.run X.A X.stack s2 H2 ⟨us, ks.zip ws⟩ (us ++ ws) (vs ++ zs) Q (fun cls d H => W cls d σ H) hr I2.env0 (hb.to s2 us ws I2.kIn (r.length.symm.trans l1) (rz.length.symm.trans l2)) r2 q2) fun rr s' hq => ?_)
    cases rr with
    | error e => exact passAt tk σ pins H2 s2 e s' I2 hq
    | ok fl =>
      cases fl with
      | ret u => exact I2.after hq
      | next => exact False.elim hq
      | brk => exact False.elim hq
      | cont => exact False.elim hq
end
end Dv

/-! DvJ: stores side by side, comprehensions stored, the drawer, calls of oneself. -/
namespace Dv
open PySem PySem.Spec PyProof.Rows L2
section
variable {X : Cx} {B : Bs} {W : WX}
/-! ### a, b = x, y -/
def dPar2 (i j : Nat) (n : DEnv → Mu → Res (List D)) : DSt := fun env μ => bindS env (n env μ) fun ds μ => match ds with
  | [d, e] => if nobor d = true ∧ nobor e = true then some (.val .nx, (env.set i (.v d)).set j (.v e), μ) else none
  | _ => none
def dPar3 (i j l : Nat) (n : DEnv → Mu → Res (List D)) : DSt := fun env μ => bindS env (n env μ) fun ds μ => match ds with
  | [d, e, f] => if nobor d = true ∧ nobor e = true ∧ nobor f = true then some (.val .nx, ((env.set i (.v d)).set j (.v e)).set l (.v f), μ) else none
  | _ => none
theorem hreps3 {T : Tx} {ρ : List Addr} {G : Hp} {σ : L2.St} {env : DEnv} {vs : List V} {d e f : D} (h : HReps T ρ G σ env vs [d, e, f]) : ∃ v u w, vs = [v, u, w] ∧ HeldR T ρ G σ env v d ∧ HeldR T ρ G σ env u e ∧ HeldR T ρ G σ env w f := by
  cases h with
  | cons a b =>
    obtain ⟨u, w, rfl, q, q'⟩ := hreps2 b
    exact ⟨_, _, _, rfl, a, q, q'⟩
theorem ds_par2 {pos : Pos} {i j : Nat} {x y : Str} {a b : Expr} {n : DEnv → Mu → Res (List D)} {px py pt : Pos} {kt k2 : Nat} {pt2 : Pos} (hc : X.calm = true) (hN : X.N.Nodup) (hi : X.N[i]? = some x) (hj : X.N[j]? = some y) (hij : i ≠ j)
    (hx : List.lookup x X.env.scope.names = some NameKind.local) (hy : List.lookup y X.env.scope.names = some NameKind.local) (ha : DA X B W [a, b] n)
    (hw : swappedStores [Expr.Tuple [Expr.Name x px, Expr.Name y py] kt pt] (Expr.Tuple [a, b] k2 pt2) X.env = pure (some [x, y]))
    (hs : swapsWithSole [Expr.Tuple [Expr.Name x px, Expr.Name y py] kt pt] (Expr.Tuple [a, b] k2 pt2) pos.line X.env = pure false := by rfl) :
    DS X B W (Stmt.Assign [Expr.Tuple [Expr.Name x px, Expr.Name y py] kt pt] (Expr.Tuple [a, b] k2 pt2) pos) (dPar2 i j n) := by
  refine ⟨psImp (ps_par hc hN hi hj hij hx hy ha.run hw hs) fun D σ H ⟨ρ, G, env, μ, R, k⟩ => ⟨ρ, G, env, μ, R, (KS.bind k).imp fun ρ1 G1 H1 μ1 ds s p R1 k1 vs hvs => ?_⟩⟩
  split at k1
  · split at k1
    · rename_i h
      obtain ⟨v, u, rfl, hv, hu⟩ := hreps2 hvs
      exact ⟨v, u, rfl, k1 _ ρ1 G1 H1 (fun _ _ h => h) (.refl _) ((R1.set (hv.rep h.1)).set (hu.rep h.2))⟩
    · exact k1.elim
  · exact k1.elim
theorem ds_par3 {pos : Pos} {i j l : Nat} {x y z : Str} {a b c : Expr} {n : DEnv → Mu → Res (List D)} {px py pz pt : Pos} {kt k2 : Nat} {pt2 : Pos} (hc : X.calm = true) (hN : X.N.Nodup) (hi : X.N[i]? = some x) (hj : X.N[j]? = some y) (hl : X.N[l]? = some z) (hij : i ≠ j) (hil : i ≠ l) (hjl : j ≠ l)
    (hx : List.lookup x X.env.scope.names = some NameKind.local) (hy : List.lookup y X.env.scope.names = some NameKind.local) (hz : List.lookup z X.env.scope.names = some NameKind.local) (ha : DA X B W [a, b, c] n)
    (hw : swappedStores [Expr.Tuple [Expr.Name x px, Expr.Name y py, Expr.Name z pz] kt pt] (Expr.Tuple [a, b, c] k2 pt2) X.env = pure (some [x, y, z]))
    (hs : swapsWithSole [Expr.Tuple [Expr.Name x px, Expr.Name y py, Expr.Name z pz] kt pt] (Expr.Tuple [a, b, c] k2 pt2) pos.line X.env = pure false := by rfl) :
    DS X B W (Stmt.Assign [Expr.Tuple [Expr.Name x px, Expr.Name y py, Expr.Name z pz] kt pt] (Expr.Tuple [a, b, c] k2 pt2) pos) (dPar3 i j l n) := by
  refine ⟨psImp (ps_par3 hc hN hi hj hl hij hil hjl hx hy hz ha.run hw hs) fun D σ H ⟨ρ, G, env, μ, R, k⟩ => ⟨ρ, G, env, μ, R, (KS.bind k).imp fun ρ1 G1 H1 μ1 ds s p R1 k1 vs hvs => ?_⟩⟩
  split at k1
  · split at k1
    · rename_i h
      obtain ⟨v, u, w, rfl, hv, hu, hw⟩ := hreps3 hvs
      exact ⟨v, u, w, rfl, k1 _ ρ1 G1 H1 (fun _ _ h => h) (.refl _) (((R1.set (hv.rep h.1)).set (hu.rep h.2.1)).set (hw.rep h.2.2))⟩
    · exact k1.elim
  · exact k1.elim
/-! ### y = [.. for ..] on one line -/
theorem ds_setLc {i : Nat} {y : Str} {py : Pos} {elt tg iter : Expr} {ifs : List Expr} {scope : Scope} {own : List (Str × Nat)} {pos spos : Pos} {it : DEnv → Mu → Res (List D)} {g : TG} {t : DTg} {is : List Nat} {tt : DEnv → Mu → Res Bool} {el : DEx}
    (hc : X.calm = true) (hN : X.N.Nodup) (hy : X.N[i]? = some y) (hyl : List.lookup y X.env.scope.names = some NameKind.local) (hsw : swapsWith (elt.ListComp [⟨tg, iter, ifs, 0⟩] scope pos) (some (Expr.Name y py)) spos.line X.env = pure true)
    (hi : DI X B W tg iter it) (ok : BlkOk X.N X.env.scope scope own) (gd : GD X.K X.mg g t is) (his : ∀ i ∈ is, i ∈ own.map (·.2))
    (hg : ∀ (s : Shared) (H : Hp) (C : Addr) (cl : List (Str × Addr)) (fp : List Addr), PG (X.blk s H scope (compEnvC scope cl C X.env) fp) tg g)
    (ht : ∀ (s : Shared) (H : Hp) (C : Addr) (cl : List (Str × Addr)) (fp : List Addr) (B : Bs), DTs (X.blk s H scope (compEnvC scope cl C X.env) fp) B W0 ifs tt)
    (he : ∀ (s : Shared) (H : Hp) (C : Addr) (cl : List (Str × Addr)) (fp : List Addr) (B : Bs), DE (X.blk s H scope (compEnvC scope cl C X.env) fp) B W0 elt el) (hs : ∀ x, foldedSetIterable iter X.env x = pure x := by intro _; rfl) :
    DS X B W (.Assign [.Name y py] (.ListComp elt [⟨tg, iter, ifs, 0⟩] scope pos) spos) (dAsg (dLc it (own.map (·.2)) t tt el) (tName i)) :=
  ds_asgG (ps_setLc (te := exE (tx X) el) (tt := exT (tx X) tt) hc hN hy hyl hsw hi.run ok hg (fun s H C cl fp => pt_ex (ht s H C cl fp)) (fun s H C cl fp => pe_ex (he s H C cl fp)) hs) (fun _ _ _ h => rd_tLc gd his h) gd_name
/-! ### the drawer -/
theorem reps_ints {T : Tx} {ρ : List Addr} {G : Hp} : ∀ ns : List Int, Reps T ρ G (ns.map V.int) (ns.map D.int)
  | [] => .nil
  | n :: ns => .cons rep_int (reps_ints ns)
def srcGet (s : Src) (i : Int) : Option D :=
  if i = 0 then (if szl s.cells.length then some (.lst (s.cells.map D.int)) else none)
  else if i = 1 then some (.int s.at_) else if i = 2 then some (.int s.big) else if i = 3 then some (.int s.seed) else if i = 4 then some (.int s.cnt) else none
def srcSet (s : Src) (i v : Int) : Option Src :=
  if i = 1 then some { s with at_ := v } else if i = 2 then some { s with big := v } else if i = 3 then some { s with seed := v } else if i = 4 then some { s with cnt := v } else none
def fIxS : F2
  | .obj k, .int i, μ => (match μ[k]? with
    | some (.src s) => (match srcGet s i with
      | some d => ret d μ
      | none => none)
    | none => none)
  | a, b, μ => fIx a b μ
theorem obj_inv {T : Tx} {ρ : List Addr} {G : Hp} {σ : L2.St} {env : DEnv} {x : V} {k : Nat} (h : HeldR T ρ G σ env x (.obj k)) : ∃ a, x = .ref a ∧ ρ[k]? = some a := by
  have h : Rep T ρ G x (.obj k) := h
  unfold Rep at h; exact h
theorem opd_ixS : OpD (tx X) (rIx X.K) fIxS := by
  intro B W σ env ρ G H μ x y d d' Q R hx hy k
  unfold fIxS at k
  split at k
  · rename_i kk i
    split at k
    · rename_i s hs
      split at k
      · rename_i d hd
        obtain ⟨a, rfl, ha⟩ := obj_inv hx
        obtain ⟨a', ea, r⟩ := R.st.at_ kk _ hs
        rw [ha] at ea; cases ea
        obtain ⟨l, e1, e2⟩ := r
        have e3 := int_inv hy
        unfold srcGet at hd
        split at hd
        · rename_i h0
          split at hd
          · rename_i hz
            cases hd
            exact .inl ⟨a, _, i, .ref l, rfl, e3, .of e1, by subst h0; rfl, k.here R (.ofR (rep_lst e2 (by simpa using hz) (reps_ints _)))⟩
          · cases hd
        · split at hd
          · rename_i h0; cases hd
            exact .inl ⟨a, _, i, .int s.at_, rfl, e3, .of e1, by subst h0; rfl, k.here R (.ofR rep_int)⟩
          · split at hd
            · rename_i h0; cases hd
              exact .inl ⟨a, _, i, .int s.big, rfl, e3, .of e1, by subst h0; rfl, k.here R (.ofR rep_int)⟩
            · split at hd
              · rename_i h0; cases hd
                exact .inl ⟨a, _, i, .int s.seed, rfl, e3, .of e1, by subst h0; rfl, k.here R (.ofR rep_int)⟩
              · split at hd
                · rename_i h0; cases hd
                  exact .inl ⟨a, _, i, .int s.cnt, rfl, e3, .of e1, by subst h0; rfl, k.here R (.ofR rep_int)⟩
                · cases hd
      · exact k.elim
    · exact k.elim
  · exact opd_ix B W σ env ρ G H μ x y _ _ Q R hx hy k
theorem RD.setSrc {T : Tx} {ρ : List Addr} {G H : Hp} {σ : L2.St} {env : DEnv} {μ : Mu} {k : Nat} {a l : Addr} {s s' : Src} (R : RD T B ρ G H σ env μ) (ha : ρ[k]? = some a) (hs : μ[k]? = some (.src s)) (e1 : H a = some (.lst (srcV l s))) (e2 : G l = some (.lst (s.cells.map V.int))) (hc : s'.cells = s.cells) :
    RD T B ρ G (upd H a (.lst (srcV l s'))) σ env (μ.set k (.src s')) := by
  have am : a ∈ ρ := List.mem_of_getElem? ha
  have ga := R.st.off a am
  have hk : k < μ.length := (List.getElem?_eq_some_iff.mp hs).1
  refine ⟨fun b u e => ?_, ⟨R.ext.gg, R.ext.pre, fun b u e => ?_, R.ext.fg, R.ext.fr⟩, R.len, fun i t ht => ?_, R.own, ⟨by rw [List.length_set]; exact R.st.len, R.st.nd, R.st.off, fun j m hm => ?_⟩, fun q hq => ?_, R.xn⟩
  · by_cases q : b = a
    · subst q; rw [ga] at e; cases e
    · rw [upd_ne q]; exact R.gh b u e
  · by_cases q : b = a
    · subst q
      refine ⟨_, upd_same, fun n => ?_⟩
      have := R.ext.fr b am n
      rw [this] at e; cases e
    · rw [upd_ne q]; exact R.ext.keep b u e
  · have h := R.slot i t ht
    cases t with
    | no => trivial
    | v d => exact h
    | own l' =>
      obtain ⟨p, vs, q1, q2, q3, q4, q5, q6, q7⟩ := h
      have z : p ≠ a := fun z => q6 (z ▸ am)
      exact ⟨p, vs, q1, by rw [upd_ne z]; exact q2, q3, q4, q5, q6, q7⟩
  · by_cases q : k = j
    · subst q
      rw [List.getElem?_set_self hk] at hm
      cases hm
      exact ⟨a, ha, l, upd_same, by rw [hc]; exact e2⟩
    · rw [List.getElem?_set_ne q] at hm
      obtain ⟨a', ea, r⟩ := R.st.at_ j m hm
      refine ⟨a', ea, ?_⟩
      have z : a' ≠ a := fun z => by
        subst z
        have hj : j < ρ.length := (List.getElem?_eq_some_iff.mp ea).1
        have hkr : k < ρ.length := (List.getElem?_eq_some_iff.mp ha).1
        have := (List.getElem?_inj hkr R.st.nd).mp (ha.trans ea.symm)
        exact q this
      cases m with
      | src s2 =>
        obtain ⟨l2, r1, r2⟩ := r
        exact ⟨l2, by rw [upd_ne z]; exact r1, r2⟩
  · obtain ⟨q1, q2, q3, q4⟩ := R.xo q hq
    have z : q.1 ≠ a := fun z => q3 (z ▸ am)
    exact ⟨by rw [upd_ne z]; exact q1, q2, q3, q4⟩
def fSetS (env : DEnv) : D → D → D → Mu → RS
  | .int v, .obj k, .int i, μ => (match μ[k]? with
    | some (.src s) => (match srcSet s i v with
      | some s' => some (.val .nx, env, μ.set k (.src s'))
      | none => none)
    | none => none)
  | _, _, _, _ => none
def dSetS (me mo mi : DEx) : DSt := fun env μ => bindS env (me env μ) fun d μ => bindS env (mo env μ) fun o μ => bindS env (mi env μ) fun i μ => fSetS env (hold d) (hold o) (hold i) μ
/-- one evaluation, then a statement's rest -/
theorem rd_thenS {T : Tx} {De : Ends} {σ : L2.St} {env : DEnv} {ρ : List Addr} {G H : Hp} {μ : Mu} {m : DEx} {f : D → Mu → RS} {Q : VK}
    (R : RD T B ρ G H σ env μ) (k : KS T B W De ρ G (bindS env (m env μ) f))
    (h : ∀ ρ1 G1 H1 μ1 x d, Same G G1 → Pre ρ ρ1 → RD T B ρ1 G1 H1 σ env μ1 → HeldR T ρ1 G1 σ env x (hold d) → KS T B W De ρ1 G1 (f d μ1) → Q x H1) : rdE T B W m σ H Q := by
  refine ⟨ρ, G, env, μ, R, (KS.bind k).imp fun ρ1 G1 H1 μ1 d s p R1 k1 x hx => ?_⟩
  obtain ⟨G2, s2, R2, h2⟩ := hx.hold R1
  exact h ρ1 G2 H1 μ1 x d (s.trans s2) p R2 h2 (k1.weak s2 (.refl _))
theorem srcV_set {l : Addr} {s s' : Src} {i v : Int} (h : srcSet s i v = some s') : s'.cells = s.cells ∧ ∃ j, ixN (srcV l s).length i = some j ∧ (srcV l s).set j (.int v) = srcV l s' := by
  unfold srcSet at h
  split at h
  · rename_i h0; cases h; subst h0; exact ⟨rfl, 1, rfl, rfl⟩
  · split at h
    · rename_i h0; cases h; subst h0; exact ⟨rfl, 2, rfl, rfl⟩
    · split at h
      · rename_i h0; cases h; subst h0; exact ⟨rfl, 3, rfl, rfl⟩
      · split at h
        · rename_i h0; cases h; subst h0; exact ⟨rfl, 4, rfl, rfl⟩
        · cases h
theorem ds_setS {o i e : Expr} {mo mi me : DEx} {tpos pos : Pos} (he : DE X B W e me) (ho : DE X B W o mo) (hi : DE X B W i mi)
    (h1 : ∀ v : Value, assign (o.Subscript i tpos) X.env v = (do let ov ← holding [v] (eval o X.env); let iv ← holding [v, ov] (eval i X.env); standAt tpos; holding [v, ov, iv] (setItem ov iv v); release [v, ov, iv] []) := by intro _; rfl)
    (h2 : swapsWithSole [o.Subscript i tpos] e pos.line X.env = pure false := by rfl) (h3 : swappedStores [o.Subscript i tpos] e X.env = pure none := by rfl) (h4 : (assignEach [o.Subscript i tpos] X.env).map (·.2) = [assign (o.Subscript i tpos) X.env] := by rfl) :
    DS X B W (.Assign [.Subscript o i tpos] e pos) (dSetS me mo mi) := by
  refine ⟨psImp (ps_asg he.run (pg_sub ho.run hi.run set_list h1) h2 h3 h4) fun De σ H ⟨ρ, G, env, μ, R, k⟩ => ?_⟩
  refine rd_thenS (f := fun d μ => bindS env (mo env μ) fun o μ => bindS env (mi env μ) fun i μ => fSetS env (hold d) (hold o) (hold i) μ) R k fun ρ1 G1 H1 μ1 x d s p R1 hx k1 => ?_
  refine rd_thenS (f := fun o μ => bindS env (mi env μ) fun i μ => fSetS env (hold d) (hold o) (hold i) μ) R1 k1 fun ρ2 G2 H2 μ2 y d2 s2 p2 R2 hy k2 => ?_
  refine rd_thenS (f := fun i μ => fSetS env (hold d) (hold d2) (hold i) μ) R2 k2 fun ρ3 G3 H3 μ3 z d3 s3 p3 R3 hz k3 => ?_
  have hx := (hx.mono s2 p2).mono s3 p3
  have hy := hy.mono s3 p3
  generalize hold d = d at *
  generalize hold d2 = d2 at *
  generalize hold d3 = d3 at *
  unfold fSetS at k3
  split at k3
  · split at k3
    · rename_i s hs
      split at k3
      · rename_i s' hset
        obtain ⟨a, rfl, ha⟩ := obj_inv hy
        obtain ⟨a', ea, r⟩ := R3.st.at_ _ _ hs
        rw [ha] at ea; cases ea
        obtain ⟨l, e1, e2⟩ := r
        obtain ⟨hc, j, q1, q2⟩ := srcV_set (l := l) hset
        refine ⟨a, _, _, j, rfl, int_inv hz, e1, q1, ?_⟩
        rw [int_inv hx, q2]
        exact k3 σ ρ3 G3 _ (fun _ _ h => h) (.refl _) (R3.setSrc ha hs e1 e2 hc)
      · exact k3.elim
    · exact k3.elim
  · exact k3.elim
end
/-! ### a drawer is made -/
def adopt (m : Fn) : Fn := fun ds μ => match m ds μ with
  | some (.val (.new [.lst cs, .int a, .int b, .int c, .int d]), μ') => (match asInts cs with
    | some ns => some (.val (.obj μ'.length), μ' ++ [.src ⟨ns, a, b, c, d⟩])
    | none => none)
  | _ => none
section
variable {T : Tx} {ρ : List Addr} {G H : Hp} {μ : Mu}
theorem sp_adopt {n : Nat} {m : Fn} {vs : List V} {Q : VK} {E : XK} (h : spD T n (adopt m) vs H Q E) : spD T n m vs H Q E := by
  obtain ⟨hl, ρ, G, ds, μ, gh, st, rs, k⟩ := h
  refine ⟨hl, ρ, G, ds, μ, gh, st, rs, ?_⟩
  unfold adopt at k
  split at k
  · rename_i cs a b c d μ' hm
    rw [hm]
    split at k
    · rename_i ns hns
      intro v ρ' G' H' ex gh' st' ro
      obtain ⟨p, us, rfl, hp, r, z, gp, pn, h0⟩ := ro
      obtain ⟨v0, r0, rfl, q0, r⟩ := r.inv
      obtain ⟨v1, r1, rfl, q1, r⟩ := r.inv
      obtain ⟨v2, r2, rfl, q2, r⟩ := r.inv
      obtain ⟨v3, r3, rfl, q3, r⟩ := r.inv
      obtain ⟨v4, r4, rfl, q4, r⟩ := r.inv
      have r5 := r.inv0
      subst r5
      unfold Rep at q0 q1 q2 q3 q4
      obtain ⟨l, ws, rfl, gl, zl, rl⟩ := q0
      subst q1 q2 q3 q4
      have ew := asInts_inv hns rl
      subst ew
      have pre : Pre ρ' (ρ' ++ [p]) := fun k x e => by rw [List.getElem?_append_left (List.getElem?_eq_some_iff.mp e).1]; exact e
      refine k (.ref p) (ρ' ++ [p]) G' H' ⟨ex.gg, ex.pre.trans pre, ex.keep, ex.fg, fun x hx n => ?_⟩ gh' ⟨by simp [st'.len], ?_, fun x hx => ?_, fun j mm hj => ?_⟩ ?_
      · rcases List.mem_append.mp hx with hx | hx
        · exact ex.fr x hx n
        · rw [List.mem_singleton.mp hx]; exact h0
      · rw [List.nodup_append]
        exact ⟨st'.nd, by simp, fun x hx y hy e => pn (by rw [List.mem_singleton.mp hy] at e; rw [← e]; exact hx)⟩
      · rcases List.mem_append.mp hx with hx | hx
        · exact st'.off x hx
        · rw [List.mem_singleton.mp hx]; exact gp
      · by_cases hlt : j < μ'.length
        · rw [List.getElem?_append_left hlt] at hj
          obtain ⟨x, e1, e2⟩ := st'.at_ j mm hj
          exact ⟨x, pre _ _ e1, e2⟩
        · have ej : j = μ'.length := by
            have := (List.getElem?_eq_some_iff.mp hj).1
            simp at this; omega
          subst ej
          rw [List.getElem?_append_right (Nat.le_refl _)] at hj
          simp at hj
          subst hj
          exact ⟨p, by rw [← st'.len]; simp, l, hp, gl⟩
      · show Rep _ _ _ _ _
        unfold Rep
        exact ⟨p, rfl, by rw [← st'.len]; simp⟩
    · exact k.elim
  · exact k.elim
end
section
variable {P : Program} {w : World} {K : PySem.W.Frag} {mg : Str → Option Value} {base : Heap} {CX : CXT} {k : Nat} {f : Addr} {fd : FuncData} {ps : List Str} {sp sp' : Sp}
theorem ok_weak (F : FnOk P w K mg base CX k f fd ps sp) (i : ∀ vs H Q E, sp' vs H Q E → sp vs H Q E) : FnOk P w K mg base CX k f fd ps sp' :=
  ⟨fun vs H Q E h => F.len vs H Q E (i _ _ _ _ h), fun A outer s H args us vs Q E a b c d h => F.run A outer s H args us vs Q E a b c d (i _ _ _ _ h)⟩
theorem ok_adopt {n : Nat} {m : Fn} (F : FnOk P w K mg base CX k f fd ps (spD ⟨K, mg⟩ n m)) : FnOk P w K mg base CX k f fd ps (spD ⟨K, mg⟩ n (adopt m)) := ok_weak F fun _ _ _ _ h => sp_adopt h
/-- a def of which nothing is said -/
def noFn : Fn := fun _ _ => none
theorem ok_none (k : Nat) (f : Addr) (fd : FuncData) (ps : List Str) : FnOk P w K mg base CX k f fd ps (spD ⟨K, mg⟩ ps.length noFn) :=
  ⟨fun vs H Q E h => h.1, fun A outer s H args us vs Q E a b c d ⟨_, ρ, G, ds, μ, _, _, _, k⟩ => k.elim⟩
end
end Dv

/-! DvK: defs by name, calls by name; more operators. -/
namespace Dv
open PySem PySem.Spec PyProof.Rows L2
section
variable {X : Cx} {B : Bs} {W : WX}
def fDiv : F2
  | .int i, .int j, μ => if 0 < j ∧ j < 1073741824 then ret (.int (i / j)) μ else none
  | _, _, _ => none
theorem opd_div : OpD (tx X) (rI CDiv fun i j => .int (i / j)) fDiv := by
  intro B W σ env ρ G H μ x y d d' Q R hx hy k
  unfold fDiv at k
  split at k
  · split at k
    · rename_i h0
      exact ⟨_, _, int_inv hx, int_inv hy, h0, k.here R (.ofR rep_int)⟩
    · exact k.elim
  · exact k.elim
def fPow : F2
  | .int i, .int j, μ => if 0 ≤ j ∧ j ≤ 1000000 ∧ i.natAbs < 18446744073709551616 then ret (.int (i ^ j.toNat)) μ else none
  | _, _, _ => none
theorem opd_pow : OpD (tx X) (rI CPow fun i j => .int (i ^ j.toNat)) fPow := by
  intro B W σ env ρ G H μ x y d d' Q R hx hy k
  unfold fPow at k
  split at k
  · split at k
    · rename_i h0
      exact ⟨_, _, int_inv hx, int_inv hy, ⟨h0.1, h0.2.1, by have := h0.2.2; simpa using this⟩, k.here R (.ofR rep_int)⟩
    · exact k.elim
  · exact k.elim
theorem unitsOk5 {k : Nat} {A : Around} (h : Room k A) : A.units + 65 < cLine := by have := h.un; omega
theorem unitsOk {k : Nat} {A : Around} (h : Room k A) : A.units + 64 < cLine := by have := h.un; omega
end
section
variable {P : Program} {w : World} {K : PySem.W.Frag} {mg : Str → Option Value} {base : Heap}
theorem takes_cx {N : List Str} {qual : Str} {scope : Scope} {f : Addr} {cdv : Value} {A : Around} {outer : List Env} {s : Shared} {H : Hp} {E : XK} :
    Takes (cxOf (L2.CX P w) P w K mg base N qual scope f cdv A outer s H E) (fun cls d _ H => E cls d H) := takes_of rfl rfl rfl rfl
/-- a def, by its name: what it does, how it takes its arguments -/
structure Callee (P : Program) (w : World) (K : PySem.W.Frag) (mg : Str → Option Value) (base : Heap) (x : Str) (ps : List Str) (kb : List (Nat × List Str)) (k : Nat) (m : Fn) : Prop where
  ex : ∃ (f : Addr) (fd : FuncData), mg x = some (.ref f) ∧ PySem.W.keepIn K (.ref f) = true ∧ Binds K fd ps [] ∧ (∀ q ∈ kb, KBn K fd ps q.1 q.2 (fun us ws => us ++ ws) (fun us ws => us ++ ws)) ∧ FnOk P w K mg base (L2.CX P w) k f fd ps (spD ⟨K, mg⟩ ps.length m)
theorem vals_append {vs : List V} {us : List Value} {zs : List V} {ws : List Value} (h : Vals vs us) (g : Vals zs ws) : Vals (vs ++ zs) (us ++ ws) := by
  induction h with
  | nil => exact g
  | cons a _ ih => exact .cons a ih
theorem kbn_of {x qual : Str} {params : Arguments} {body : List Stmt} {scope : Scope} {f : Addr} {fd : FuncData} {ps : List Str} {n : Nat} {ks : List Str} (F : FunD K x qual params body scope [] [] f fd)
    (h : ∀ (kV doc pm : Value) (an : Option Addr) (cdv ct : Value) (us ws : List Value), us.length = n → ws.length = ks.length → bindArgs (PySem.W.fnOf x qual params body scope .none kV doc pm an cdv ct) ⟨us, ks.zip ws⟩ = pure (ps.zip (us ++ ws))) :
    KBn K fd ps n ks (fun us ws => us ++ ws) (fun us ws => us ++ ws) := by
  obtain ⟨oc, od, dV, kV, doc, pm, an, cdv, ct, osl, rfl, _, _, hd, _⟩ := F.ex
  rcases hd with ⟨_, rfl⟩ | ⟨h0, _⟩
  · exact ⟨fun s us ws _ h1 h2 => BindsTo.of_eq (h kV doc pm an cdv ct us ws h1 h2), vals_append⟩
  · exact absurd rfl h0
theorem callee {x qual y : Str} {params : Arguments} {body : List Stmt} {scope : Scope} {f : Addr} {fd : FuncData} {N ps : List Str} {kb : List (Nat × List Str)} {k : Nat} {m : DSt} (hm : mg y = some (.ref f)) (F : FunD K x qual params body scope [] [] f fd) (S : FnScope N ps scope)
    (hb : ∀ (kV doc pm : Value) (an : Option Addr) (cdv ct : Value) (us : List Value), us.length = ps.length → bindArgs (PySem.W.fnOf x qual params body scope .none kV doc pm an cdv ct) ⟨us, []⟩ = pure (ps.zip us))
    (hkb : ∀ q ∈ kb, ∀ (kV doc pm : Value) (an : Option Addr) (cdv ct : Value) (us ws : List Value), us.length = q.1 → ws.length = q.2.length → bindArgs (PySem.W.fnOf x qual params body scope .none kV doc pm an cdv ct) ⟨us, q.2.zip ws⟩ = pure (ps.zip (us ++ ws)))
    (hbody : ∀ (cdv : Value) (A : Around) (outer : List Env) (s : Shared) (H : Hp) (E : XK) (B : Bs), Room k (A.deeper (envOfC qual scope s.heap.objs.size f cdv)) → DSs (cxOf (L2.CX P w) P w K mg base N qual scope f cdv A outer s H E) B (fun cls d _ H => E cls d H) body m) :
    Callee P w K mg base y ps kb (k + 1) (cleanD (defD N.length m)) :=
  ⟨f, fd, hm, F.kp, F.bindsN hb, fun q hq => kbn_of F (hkb q hq), def_ok F S hbody⟩
theorem Callee.adopt {y : Str} {ps : List Str} {kb : List (Nat × List Str)} {k : Nat} {m : Fn} (C : Callee P w K mg base y ps kb k m) : Callee P w K mg base y ps kb k (adopt m) := by
  obtain ⟨f, fd, h1, h2, h3, h4, h5⟩ := C.ex
  exact ⟨f, fd, h1, h2, h3, h4, ok_adopt h5⟩
/-- nothing is said -/
theorem callee0 {x qual y : Str} {params : Arguments} {body : List Stmt} {scope : Scope} {f : Addr} {fd : FuncData} {ps : List Str} {kb : List (Nat × List Str)} {k : Nat} (hm : mg y = some (.ref f)) (F : FunD K x qual params body scope [] [] f fd)
    (hb : ∀ (kV doc pm : Value) (an : Option Addr) (cdv ct : Value) (us : List Value), us.length = ps.length → bindArgs (PySem.W.fnOf x qual params body scope .none kV doc pm an cdv ct) ⟨us, []⟩ = pure (ps.zip us))
    (hkb : ∀ q ∈ kb, ∀ (kV doc pm : Value) (an : Option Addr) (cdv ct : Value) (us ws : List Value), us.length = q.1 → ws.length = q.2.length → bindArgs (PySem.W.fnOf x qual params body scope .none kV doc pm an cdv ct) ⟨us, q.2.zip ws⟩ = pure (ps.zip (us ++ ws))) :
    Callee P w K mg base y ps kb k noFn :=
  ⟨f, fd, hm, F.kp, F.bindsN hb, fun q hq => kbn_of F (hkb q hq), ok_none k f fd ps⟩
end
section
variable {X : Cx} {B : Bs} {W : WX}
theorem de_callN {k n : Nat} {ps : List Str} {kb : List (Nat × List Str)} {m : Fn} {x : Str} {p pos : Pos} {e : Expr} {es : List Expr} {na : DEnv → Mu → Res (List D)} (C : Callee X.prog X.w X.K X.mg X.base x ps kb k m) (hr : Room k X.A) (tk : Takes X W) (hg : Gl X x) (ha : DA X B W (e :: es) na) (hn : ps.length = n := by rfl)
    (hdb : (x == ("__debug__" : Str)) = false := by decide) (he : starEach (e :: es) X.env = (false, eval e X.env) :: starEach es X.env := by rfl) (hpl : (backTo pos (starEach es X.env)).any (·.1) = false := by rfl) :
    DE X B W (.Call (.Name x p) (e :: es) [] pos) (dCall (fCall n m) na) := by
  subst hn
  obtain ⟨f, fd, h1, h2, h3, h4, h5⟩ := C.ex
  exact de_call (ds := []) (dvs := []) h5 hr tk hg h1 h2 h3 ha hdb he hpl
theorem de_callKN {k n0 n l : Nat} {ps ks : List Str} {kb : List (Nat × List Str)} {m : Fn} {x : Str} {p pos : Pos} {e : Expr} {es : List Expr} {kws : List Keyword} {na nk : DEnv → Mu → Res (List D)} (C : Callee X.prog X.w X.K X.mg X.base x ps kb k m) (hr : Room k X.A) (tk : Takes X W) (hg : Gl X x)
    (hb : (n0, ks) ∈ kb) (ha : DA X B W (e :: es) na) (hkw : DK X B W kws nk) (hn : ps.length = n := by rfl) (hl : ks.length = l := by rfl) (hall : (backToKw pos (keywordEach kws X.env)).all (·.1.isSome) = true := by rfl) (hks : (backToKw pos (keywordEach kws X.env)).filterMap (·.1) = ks := by rfl)
    (hdb : (x == ("__debug__" : Str)) = false := by decide) (he : starEach (e :: es) X.env = (false, eval e X.env) :: starEach es X.env := by rfl)
    (hpl : ((backTo pos (starEach (e :: es) X.env)).any (·.1) || (backToKw pos (keywordEach kws X.env)).any (·.1.isNone)) = false := by rfl) :
    DE X B W (.Call (.Name x p) (e :: es) kws pos) (dCallK (fCall n m) n0 l na nk) := by
  subst hn hl
  obtain ⟨f, fd, h1, h2, h3, h4, h5⟩ := C.ex
  exact de_callK h5 hr tk hg h1 h2 (h4 _ hb) ha hkw hall hks hdb he hpl
end
end Dv

/-! DvL: short forms of the rules, for printed derivations. -/
namespace Dv
open PySem PySem.Spec PyProof.Rows L2
section
variable {X : Cx} {B : Bs} {W : WX}
theorem vv (i : Nat) {x : Str} {pos : Pos} (h : X.N[i]? = some x := by rfl) (h2 : Vis X.env.scope x := by first | exact .inl rfl | exact .inr (.inl rfl) | exact .inr (.inr rfl) | rfl | decide +kernel) (h3 : (x == Str.ofString "__debug__") = false := by rfl) (h4 : (x == Str.ofString "__classdict__") = false := by rfl) : DE X B W (.Name x pos) (dVar i) := de_var (pv i h h2 h3 h4)
theorem boot_len' : bootBuiltins "len" = some (.builtin "len") := by kernel_rfl
theorem len_ {p pos : Pos} {e : Expr} {es : List Expr} {n : DEnv → Mu → Res (List D)} (hm : X.mg "len" = none) (ha : DA X B W (e :: es) n) (hg : Gl X "len" := by rfl) (he : starEach (e :: es) X.env = (false, eval e X.env) :: starEach es X.env := by rfl) (hpl : (backTo pos (starEach es X.env)).any (·.1) = false := by rfl) : DE X B W (.Call (.Name "len" p) (e :: es) [] pos) (dCall fLen n) := de_callB (call_len) ca_len hg hm boot_len' ha (by decide) (by decide) he hpl
theorem boot_sum' : bootBuiltins "sum" = some (.builtin "sum") := by kernel_rfl
theorem sum_ {p pos : Pos} {e : Expr} {es : List Expr} {n : DEnv → Mu → Res (List D)} (hm : X.mg "sum" = none) (ha : DA X B W (e :: es) n) (hg : Gl X "sum" := by rfl) (hc : X.calm = true := by rfl) (he : starEach (e :: es) X.env = (false, eval e X.env) :: starEach es X.env := by rfl) (hpl : (backTo pos (starEach es X.env)).any (·.1) = false := by rfl) : DE X B W (.Call (.Name "sum" p) (e :: es) [] pos) (dCall fSum n) := de_callB (cr_sum hc) ca_sum hg hm boot_sum' ha (by decide) (by decide) he hpl
theorem boot_all' : bootBuiltins "all" = some (.builtin "all") := by kernel_rfl
theorem all_ {p pos : Pos} {e : Expr} {es : List Expr} {n : DEnv → Mu → Res (List D)} (hm : X.mg "all" = none) (ha : DA X B W (e :: es) n) (hg : Gl X "all" := by rfl) (hc : X.calm = true := by rfl) (he : starEach (e :: es) X.env = (false, eval e X.env) :: starEach es X.env := by rfl) (hpl : (backTo pos (starEach es X.env)).any (·.1) = false := by rfl) : DE X B W (.Call (.Name "all" p) (e :: es) [] pos) (dCall fAll n) := de_callB (cr_all hc) ca_all hg hm boot_all' ha (by decide) (by decide) he hpl
theorem boot_any' : bootBuiltins "any" = some (.builtin "any") := by kernel_rfl
theorem any_ {p pos : Pos} {e : Expr} {es : List Expr} {n : DEnv → Mu → Res (List D)} (hm : X.mg "any" = none) (ha : DA X B W (e :: es) n) (hg : Gl X "any" := by rfl) (hc : X.calm = true := by rfl) (he : starEach (e :: es) X.env = (false, eval e X.env) :: starEach es X.env := by rfl) (hpl : (backTo pos (starEach es X.env)).any (·.1) = false := by rfl) : DE X B W (.Call (.Name "any" p) (e :: es) [] pos) (dCall fAny n) := de_callB (cr_any hc) ca_any hg hm boot_any' ha (by decide) (by decide) he hpl
theorem boot_int' : bootBuiltins "int" = some (.type "int") := by kernel_rfl
theorem int_ {p pos : Pos} {e : Expr} {es : List Expr} {n : DEnv → Mu → Res (List D)} (hm : X.mg "int" = none) (ha : DA X B W (e :: es) n) (hg : Gl X "int" := by rfl) (he : starEach (e :: es) X.env = (false, eval e X.env) :: starEach es X.env := by rfl) (hpl : (backTo pos (starEach es X.env)).any (·.1) = false := by rfl) : DE X B W (.Call (.Name "int" p) (e :: es) [] pos) (dCall fInt n) := de_callTy (call_int1) ca_int hg hm boot_int' ha (by decide) (by decide) he hpl
theorem boot_list' : bootBuiltins "list" = some (.type "list") := by kernel_rfl
theorem list_ {p pos : Pos} {e : Expr} {es : List Expr} {n : DEnv → Mu → Res (List D)} (hm : X.mg "list" = none) (ha : DA X B W (e :: es) n) (hg : Gl X "list" := by rfl) (he : starEach (e :: es) X.env = (false, eval e X.env) :: starEach es X.env := by rfl) (hpl : (backTo pos (starEach es X.env)).any (·.1) = false := by rfl) : DE X B W (.Call (.Name "list" p) (e :: es) [] pos) (dCall fList n) := de_callTy (call_list_of) ca_list hg hm boot_list' ha (by decide) (by decide) he hpl
theorem boot_tuple' : bootBuiltins "tuple" = some (.type "tuple") := by kernel_rfl
theorem tuple_ {p pos : Pos} {e : Expr} {es : List Expr} {n : DEnv → Mu → Res (List D)} (hm : X.mg "tuple" = none) (ha : DA X B W (e :: es) n) (hg : Gl X "tuple" := by rfl) (he : starEach (e :: es) X.env = (false, eval e X.env) :: starEach es X.env := by rfl) (hpl : (backTo pos (starEach es X.env)).any (·.1) = false := by rfl) : DE X B W (.Call (.Name "tuple" p) (e :: es) [] pos) (dCall fTuple n) := de_callTy (call_tuple_of) ca_tuple hg hm boot_tuple' ha (by decide) (by decide) he hpl
theorem boot_isi' : bootBuiltins "isinstance" = some (.builtin "isinstance") := by kernel_rfl
theorem isi_ {p pos : Pos} {e : Expr} {es : List Expr} {n : DEnv → Mu → Res (List D)} (hm : X.mg "isinstance" = none) (ha : DA X B W (e :: es) n) (hg : Gl X "isinstance" := by rfl) (he : starEach (e :: es) X.env = (false, eval e X.env) :: starEach es X.env := by rfl) (hpl : (backTo pos (starEach es X.env)).any (·.1) = false := by rfl) : DE X B W (.Call (.Name "isinstance" p) (e :: es) [] pos) (dCall fIsi n) := de_callB (call_isi.or (call_isiT.or call_isiK)) ca_isi hg hm boot_isi' ha (by decide) (by decide) he hpl
theorem ty_int {p : Pos} (hm : X.mg "int" = none) (hg : Gl X "int" := by rfl) : DE X B W (.Name "int" p) (dC (.ty "int")) := de_c (pe_bltn hg hm (u := .type "int") (by kernel_rfl) (show RelV (.ty "int") (.type "int") from rfl)) fun _ _ => rep_ty
theorem ty_bool {p : Pos} (hm : X.mg "bool" = none) (hg : Gl X "bool" := by rfl) : DE X B W (.Name "bool" p) (dC (.ty "bool")) := de_c (pe_bltn hg hm (u := .type "bool") (by kernel_rfl) (show RelV (.ty "bool") (.type "bool") from rfl)) fun _ _ => rep_ty
theorem ty_str {p : Pos} (hm : X.mg "str" = none) (hg : Gl X "str" := by rfl) : DE X B W (.Name "str" p) (dC (.ty "str")) := de_c (pe_bltn hg hm (u := .type "str") (by kernel_rfl) (show RelV (.ty "str") (.type "str") from rfl)) fun _ _ => rep_ty
theorem ty_tuple {p : Pos} (hm : X.mg "tuple" = none) (hg : Gl X "tuple" := by rfl) : DE X B W (.Name "tuple" p) (dC (.ty "tuple")) := de_c (pe_bltn hg hm (u := .type "tuple") (by kernel_rfl) (show RelV (.ty "tuple") (.type "tuple") from rfl)) fun _ _ => rep_ty
theorem ty_list {p : Pos} (hm : X.mg "list" = none) (hg : Gl X "list" := by rfl) : DE X B W (.Name "list" p) (dC (.ty "list")) := de_c (pe_bltn hg hm (u := .type "list") (by kernel_rfl) (show RelV (.ty "list") (.type "list") from rfl)) fun _ _ => rep_ty
theorem ix_ {a b : Expr} {ma mb : DEx} {pos : Pos} (ha : DE X B W a ma) (hb : DE X B W b mb) (hs : PlainIx b := by exact fun _ _ => rfl) : DE X B W (.Subscript a b pos) (dBin fIxS ma mb) := de_ix ix_seq opd_ixS ha hb hs
end
end Dv

/-! DvM: the law's end. -/
namespace Dv
open PySem PySem.Spec PyProof.Rows L2
section
variable {P : Program} {w : World} {K : PySem.W.Frag} {mg : Str → Option Value} {base : Heap} {k : Nat} {f : Addr} {fd : FuncData} {ps : List Str} {sp : Sp}
theorem ok_calm (F : FnOk P w K mg base (L2.CX P w) k f fd ps sp) : FnOk P w K mg base CX0 k f fd ps (fun vs H Q _ => sp vs H Q fun _ _ _ => False) := by
  refine ⟨fun vs H Q E h => F.len vs H Q _ h, fun A outer s H args us vs Q E a b c d h => codeAny_mono (F.run A outer s H args us vs Q _ a b c d h) fun r s' hr => ?_⟩
  cases r with
  | error e =>
    obtain ⟨_, _, _, _, _, _, _, _, _, _, _, _, z⟩ := hr
    exact z.elim
  | ok fl =>
    cases fl with
    | ret u => exact hr
    | next => exact hr
    | brk => exact hr
    | cont => exact hr
/-- the law is called -/
theorem sp_start {m : Fn} {μ' : Mu} {H : Hp} {a : Addr} {ns : List Int} (hm : m [.scr (ns.map D.int)] [] = some (.val (.bl true), μ')) (hl : ns.length ≤ 63) (hS : SqL K H a (ns.map V.int)) :
    spD ⟨K, mg⟩ 1 m [.ref a] H (fun v _ => v = .bl true) (fun _ _ _ => False) := by
  refine ⟨rfl, [], H, [.scr (ns.map D.int)], [], fun _ _ h => h, ⟨rfl, List.nodup_nil, fun _ h => absurd h List.not_mem_nil, fun k m h => by simp at h⟩, .cons ?_ .nil, ?_⟩
  · unfold Rep
    exact ⟨a, _, rfl, hS, by rw [List.length_map]; exact Nat.le_trans hl (by decide), reps_ints ns⟩
  · rw [hm]
    intro v ρ' G' H' _ _ _ h
    have h : Rep ⟨K, mg⟩ ρ' G' v (.bl true) := h
    unfold Rep at h; exact h
end
end Dv

/-! DvP: meanings evaluated, by plain lemmas. -/
namespace Dv
open PySem PySem.Spec PyProof.Rows L2
theorem seq_nx {a b : DSt} {env env' : DEnv} {μ μ' : Mu} {r : RS} (h : a env μ = some (.val .nx, env', μ')) (g : b env' μ' = r) : dSeq a b env μ = r := by
  unfold dSeq; rw [h]; exact g
theorem seq_ret {a b : DSt} {env env' : DEnv} {μ μ' : Mu} {d : D} (h : a env μ = some (.val (.ret d), env', μ')) : dSeq a b env μ = some (.val (.ret d), env', μ') := by
  unfold dSeq; rw [h]
theorem ifs_t {t : DEnv → Mu → Res Bool} {a b : DSt} {env : DEnv} {μ μ' : Mu} {r : RS} (h : t env μ = some (.val true, μ')) (g : a env μ' = r) : dIfS t a b env μ = r := by
  unfold dIfS bindS; rw [h]; exact g
theorem ifs_f {t : DEnv → Mu → Res Bool} {a b : DSt} {env : DEnv} {μ μ' : Mu} {r : RS} (h : t env μ = some (.val false, μ')) (g : b env μ' = r) : dIfS t a b env μ = r := by
  unfold dIfS bindS; rw [h]; exact g
theorem asg_ {m : DEx} {t : DTg} {env env' : DEnv} {μ μ' : Mu} {d : D} (h : m env μ = some (.val d, μ')) (n : nobor d = true) (g : t env (hold d) = some env') : dAsg m t env μ = some (.val .nx, env', μ') := by
  unfold dAsg bindS; rw [h]; simp only [n, g, if_true]
theorem ret_ {m : DEx} {env : DEnv} {μ μ' : Mu} {d : D} (h : m env μ = some (.val d, μ')) : dRet m env μ = some (.val (.ret (unbor d)), env, μ') := by
  unfold dRet bindS; rw [h]
theorem clean_ {m : Fn} {ds : List D} {μ μ' : Mu} {d : D} (h : m ds μ = some (.val d, μ')) (n : nobor d = true) : cleanD m ds μ = some (.val d, μ') := by
  unfold cleanD; rw [h]; simp only [n, if_true]
theorem def_ret {n : Nat} {b : DSt} {ds : List D} {env : DEnv} {μ μ' : Mu} {d : D} (h : b (envD n ds) μ = some (.val (.ret d), env, μ')) (hn : nobor d = true) : cleanD (defD n b) ds μ = some (.val d, μ') :=
  clean_ (by unfold defD; rw [h]; rfl) hn
theorem call_ {n : Nat} {m : Fn} {ds : List D} {μ : Mu} {r : Res D} (h : m ds μ = r) (hl : ds.length = n := by rfl) (ha : ds.all nobor = true := by rfl) : fCall n m ds μ = r := by
  unfold fCall; rw [if_pos ⟨hl, ha⟩]; exact h
/-! ### comprehensions -/
theorem lc_map {α : Type} {tg : DTg} {tt : DEnv → Mu → Res Bool} {el : DEx} {env : DEnv} {μ : Mu} (f g : α → D) : ∀ (l : List α), (∀ a ∈ l, ∃ env1, tg env (f a) = some env1 ∧ tt env1 μ = some (.val true, μ) ∧ el env1 μ = some (.val (g a), μ) ∧ nobor (g a) = true) →
    lcRun tg tt el env (l.map f) μ = some (l.map fun a => hold (g a), μ)
  | [], _ => rfl
  | a :: l, h => by
    obtain ⟨env1, h1, h2, h3, h4⟩ := h a List.mem_cons_self
    simp only [List.map_cons]
    unfold lcRun
    simp only [h1, h2, h3, h4, if_true, lc_map f g l fun b hb => h b (List.mem_cons_of_mem _ hb)]
/-- tests that may say no -/
theorem lc_filter {α : Type} {tg : DTg} {tt : DEnv → Mu → Res Bool} {el : DEx} {env : DEnv} {μ : Mu} (f g : α → D) (c : α → Bool) : ∀ (l : List α), (∀ a ∈ l, ∃ env1, tg env (f a) = some env1 ∧ tt env1 μ = some (.val (c a), μ) ∧ el env1 μ = some (.val (g a), μ) ∧ nobor (g a) = true) →
    lcRun tg tt el env (l.map f) μ = some ((l.filter c).map fun a => hold (g a), μ)
  | [], _ => rfl
  | a :: l, h => by
    obtain ⟨env1, h1, h2, h3, h4⟩ := h a List.mem_cons_self
    have ih := lc_filter f g c l fun b hb => h b (List.mem_cons_of_mem _ hb)
    simp only [List.map_cons]
    unfold lcRun
    cases hc : c a with
    | true =>
      rw [hc] at h2
      simp only [h1, h2, h3, h4, if_true, ih, List.filter_cons_of_pos hc, List.map_cons]
    | false =>
      rw [hc] at h2
      simp only [h1, h2, ih, List.filter_cons_of_neg (by simp [hc] : ¬ c a = true)]
/-- each turn may change the store -/
theorem lc_inv {tg : DTg} {tt : DEnv → Mu → Res Bool} {el : DEx} {env : DEnv} (I : Mu → Prop) (R : D → Prop) : ∀ (l : List D), (∀ d ∈ l, ∀ μ, I μ → ∃ env1 x μ', tg env d = some env1 ∧ tt env1 μ = some (.val true, μ) ∧ el env1 μ = some (.val x, μ') ∧ nobor x = true ∧ I μ' ∧ R (hold x)) →
    ∀ μ, I μ → ∃ xs μ', lcRun tg tt el env l μ = some (xs, μ') ∧ xs.length = l.length ∧ I μ' ∧ ∀ x ∈ xs, R x
  | [], _, μ, h => ⟨[], μ, rfl, rfl, h, fun _ hx => absurd hx List.not_mem_nil⟩
  | d :: l, h, μ, hI => by
    obtain ⟨env1, x, μ1, h1, h2, h3, h4, h5, h6⟩ := h d List.mem_cons_self μ hI
    obtain ⟨xs, μ2, e1, e2, e3, e4⟩ := lc_inv I R l (fun b hb => h b (List.mem_cons_of_mem _ hb)) μ1 h5
    refine ⟨hold x :: xs, μ2, ?_, by simp [e2], e3, fun y hy => ?_⟩
    · unfold lcRun
      simp only [h1, h2, h3, h4, if_true, e1]
    · rcases List.mem_cons.mp hy with rfl | hy
      · exact h6
      · exact e4 y hy
theorem dLc_of {it : DEnv → Mu → Res (List D)} {own : List Nat} {tg : DTg} {tt : DEnv → Mu → Res Bool} {el : DEx} {env : DEnv} {μ μ1 μ2 : Mu} {ds l : List D} (no : noOwn env own = true) (hi : it env μ = some (.val ds, μ1)) (hr : lcRun tg tt el (wipeD env own) ds μ1 = some (l, μ2)) : dLc it own tg tt el env μ = some (.val (.new l), μ2) := by
  unfold dLc
  rw [if_pos no, hi]
  simp only [bindR, lcFin, hr]
/-- every turn goes on -/
theorem for_nx {tg : DTg} {body : DSt} (I : DEnv → Mu → Prop) : ∀ (l : List D), (∀ d ∈ l, ∀ env μ, I env μ → ∃ env1 env2 μ2, tg env d = some env1 ∧ body env1 μ = some (.val .nx, env2, μ2) ∧ I env2 μ2) →
    ∀ env μ, I env μ → ∃ env' μ', forRun tg body l env μ = some (.val .nx, env', μ') ∧ I env' μ'
  | [], _, env, μ, h => ⟨env, μ, rfl, h⟩
  | d :: l, h, env, μ, hI => by
    obtain ⟨env1, env2, μ2, h1, h2, h3⟩ := h d List.mem_cons_self env μ hI
    obtain ⟨env3, μ3, e1, e2⟩ := for_nx I l (fun b hb => h b (List.mem_cons_of_mem _ hb)) env2 μ2 h3
    refine ⟨env3, μ3, ?_, e2⟩
    unfold forRun
    simp only [h1, h2, e1]
theorem for_of {it : DEnv → Mu → Res (List D)} {tg : DTg} {b : DSt} {env : DEnv} {μ μ1 : Mu} {ds : List D} {r : RS} (hi : it env μ = some (.val ds, μ1)) (hr : forRun tg b ds env μ1 = r) : dFor it tg b env μ = r := by
  unfold dFor bindS; rw [hi]; exact hr
/-! ### rows of intsD -/
abbrev intsD (l : List Int) : List D := l.map D.int
abbrev tupI (l : List Int) : D := .tup (intsD l)
abbrev lstI (l : List Int) : D := .lst (intsD l)
theorem zip_ints (xs ys : List Int) : List.zipWith pairD (intsD xs) (intsD ys) = (xs.zip ys).map fun q => pairD (.int q.1) (.int q.2) := by
  rw [List.zipWith_map]
  induction xs generalizing ys with
  | nil => rfl
  | cons x xs ih => cases ys with
    | nil => rfl
    | cons y ys => simp [ih]
theorem asInts_intsD : ∀ l : List Int, asInts (intsD l) = some l
  | [] => rfl
  | i :: l => by
    have := asInts_intsD l
    show asInts (D.int i :: intsD l) = _
    unfold asInts
    rw [this]; rfl
theorem plainD_int (n : Nat) (i : Int) : plainD n (.int i) = true := by cases n <;> rfl
theorem plain_ints (n : Nat) (l : List Int) : (intsD l).all (plainD n) = true := by
  rw [List.all_eq_true]; intro d hd
  obtain ⟨i, _, rfl⟩ := List.mem_map.mp hd
  exact plainD_int n i
theorem nobor_ints (l : List Int) : (intsD l).all nobor = true := by
  rw [List.all_eq_true]; intro d hd
  obtain ⟨i, _, rfl⟩ := List.mem_map.mp hd
  rfl
end Dv

/-! DvQ: what the laws' helpers mean, and what that comes to. -/
namespace Dv
open PySem PySem.Spec PyProof.Rows L2
def bDraw : DSt := (dSeq (dIfS (dAndT (dTest (dBin fEq (dBin fIxS (dVar 0) (dC (.int 2))) (dC (.int 0)))) (dTest (dBin (fCmp fun i j => decide (i < j)) (dBin fIxS (dVar 0) (dC (.int 1))) (dCall fLen (dCons (dBin fIxS (dVar 0) (dC (.int 0))) dNil))))) (dSeq (dAsg (dBin fIxS (dBin fIxS (dVar 0) (dC (.int 0))) (dBin fIxS (dVar 0) (dC (.int 1)))) (tName 2))
  (dSeq (dSetS (dBin fAdd (dBin fIxS (dVar 0) (dC (.int 1))) (dC (.int 1))) (dVar 0) (dC (.int 1)))
  (dIfS (dTest (dBin (fCmp fun i j => decide (j ≤ i)) (dVar 2) (dBin fPow (dC (.int 10)) (dC (.int 18))))) (dSetS (dVar 2) (dVar 0) (dC (.int 2))) (dSetS (dBin fMod (dCall fInt (dCons (dBin fAdd (dBin fAdd (dBin fMul (dBin fIxS (dVar 0) (dC (.int 3))) (dC (.int 45053))) (dBin fMul (dBin fMod (dCall fInt (dCons (dVar 2) dNil)) (dC (.int 2147483563))) (dC (.int 50033)))) (dC (.int 67))) dNil)) (dC (.int 2147483587))) (dVar 0) (dC (.int 3)))))) dSkip)
  (dSeq (dIfS (dTest (dBin (fCmp fun i j => decide (j < i)) (dBin fIxS (dVar 0) (dC (.int 2))) (dC (.int 0)))) (dSeq (dAsg (dBin fMod (dCall fInt (dCons (dBin fIxS (dVar 0) (dC (.int 2))) dNil)) (dVar 1)) (tName 3))
  (dSeq (dSetS (dBin fDiv (dBin fIxS (dVar 0) (dC (.int 2))) (dVar 1)) (dVar 0) (dC (.int 2)))
  (dRet (dVar 3)))) dSkip)
  (dSeq (dSetS (dBin fAdd (dBin fIxS (dVar 0) (dC (.int 4))) (dC (.int 1))) (dVar 0) (dC (.int 4)))
  (dSeq (dAsg (dBin fIxS (dVar 0) (dC (.int 3))) (tName 4))
  (dSeq (dSetS (dBin fMod (dCall fInt (dCons (dBin fAdd (dBin fAdd (dBin fAdd (dBin fMul (dVar 4) (dVar 4)) (dBin fMul (dVar 4) (dC (.int 33023)))) (dBin fMul (dBin fIxS (dVar 0) (dC (.int 4))) (dC (.int 1299709)))) (dC (.int 85571))) dNil)) (dC (.int 2147483587))) (dVar 0) (dC (.int 3)))
  (dRet (dBin fMod (dCall fInt (dCons (dBin fAdd (dBin fDiv (dBin fIxS (dVar 0) (dC (.int 3))) (dC (.int 71))) (dBin fMul (dBin fMod (dCall fInt (dCons (dBin fIxS (dVar 0) (dC (.int 3))) dNil)) (dC (.int 7907))) (dC (.int 59)))) dNil)) (dVar 1))))))))
def mDraw : Fn := cleanD (defD 5 bDraw)
def bOf : DSt := (dRet (dBin fIxS (dVar 1) (dCall (fCall 2 mDraw) (dCons (dVar 0) (dCons (dCall fLen (dCons (dVar 1) dNil)) dNil)))))
def mOf : Fn := cleanD (defD 2 bOf)
def bRow : DSt := (dRet (dCall fTuple (dCons (dLc (dArg fRange1 (dCons (dVar 2) dNil)) [3] (tName 3) dYes (dCall (fCall 2 mDraw) (dCons (dVar 0) (dCons (dVar 1) dNil)))) dNil)))
def mRow : Fn := cleanD (defD 4 bRow)
def bSum : DSt := (dRet (dCall fTuple (dCons (dLc (dArg fZip (dCons (dVar 1) (dCons (dVar 2) dNil))) [4, 5] (Dv.tTup 2 (tsCons (tName 4) (tsCons (tName 5) tsNil))) dYes (dBin fMod (dCall fInt (dCons (dBin fAdd (dVar 4) (dBin fMul (dVar 3) (dVar 5))) dNil)) (dVar 0))) dNil)))
def mSum : Fn := cleanD (defD 6 bSum)
def bLead : DSt := (dSeq (dAsg (dLc (dArg fRange1 (dCons (dCall fLen (dCons (dVar 0) dNil)) dNil)) [2] (tName 2) (dTest (dBin fNe (dBin fIxS (dVar 0) (dVar 2)) (dC (.int 0)))) (dVar 2)) (tName 1))
  (dRet (dIf (dTest (dBin fNe (dVar 1) (dLst dNil))) (dBin fIxS (dVar 1) (dC (.int 0))) (dBin fSub (dC (.int 0)) (dC (.int 1))))))
def mLead : Fn := cleanD (defD 3 bLead)
def bLike (f : Fn) : DSt := (dSeq (dIfS (dTest (dCall fIsi (dCons (dVar 1) (dCons (dTup (dCons (dC (.ty "list")) (dCons (dC (.ty "tuple")) dNil))) dNil)))) (dSeq (dIfS (dTest (dBin fNe (dCall fIsi (dCons (dVar 0) (dCons (dC (.ty "list")) dNil))) (dCall fIsi (dCons (dVar 1) (dCons (dC (.ty "list")) dNil))))) (dRet (dC (.bl false))) dSkip)
  (dSeq (dIfS (dTest (dBin fNe (dCall fIsi (dCons (dVar 0) (dCons (dC (.ty "tuple")) dNil))) (dCall fIsi (dCons (dVar 1) (dCons (dC (.ty "tuple")) dNil))))) (dRet (dC (.bl false))) dSkip)
  (dRet (dAndV (dBin fEq (dCall fLen (dCons (dVar 0) dNil)) (dCall fLen (dCons (dVar 1) dNil))) (dCall fAll (dCons (dLc (dArg fZip (dCons (dVar 0) (dCons (dVar 1) dNil))) [2, 3] (Dv.tTup 2 (tsCons (tName 2) (tsCons (tName 3) tsNil))) dYes (dCall (fCall 2 f) (dCons (dVar 2) (dCons (dVar 3) dNil)))) dNil)))))) dSkip)
  (dSeq (dIfS (dOrT (dTest (dBin (fIs false) (dVar 1) (dC .non))) (dTest (dBin (fIs false) (dVar 0) (dC .non)))) (dRet (dAndV (dBin (fIs false) (dVar 1) (dC .non)) (dBin (fIs false) (dVar 0) (dC .non)))) dSkip)
  (dSeq (dIfS (dOrT (dTest (dBin fNe (dCall fIsi (dCons (dVar 0) (dCons (dC (.ty "bool")) dNil))) (dCall fIsi (dCons (dVar 1) (dCons (dC (.ty "bool")) dNil))))) (dTest (dBin fNe (dCall fIsi (dCons (dVar 0) (dCons (dC (.ty "int")) dNil))) (dCall fIsi (dCons (dVar 1) (dCons (dC (.ty "int")) dNil)))))) (dRet (dC (.bl false))) dSkip)
  (dRet (dAndV (dBin fEq (dCall fIsi (dCons (dVar 0) (dCons (dC (.ty "str")) dNil))) (dCall fIsi (dCons (dVar 1) (dCons (dC (.ty "str")) dNil)))) (dBin fEq (dVar 0) (dVar 1)))))))
def mLike : Nat → Fn
  | 0 => noFn
  | n + 1 => cleanD (defD 4 (bLike (mLike n)))
def bAdded : DSt := (dRet (dCall fTuple (dCons (dLc (dArg fZip (dCons (dVar 0) (dCons (dVar 1) dNil))) [3, 4] (Dv.tTup 2 (tsCons (tName 3) (tsCons (tName 4) tsNil))) dYes (dBin fMod (dBin fAdd (dVar 3) (dVar 4)) (dVar 2))) dNil)))
def mAdded : Fn := cleanD (defD 5 bAdded)
def bMultiplied : DSt := (dRet (dCall fTuple (dCons (dLc (dIter (dVar 0)) [3] (tName 3) dYes (dBin fMod (dBin fMul (dVar 3) (dVar 1)) (dVar 2))) dNil)))
def mMultiplied : Fn := cleanD (defD 4 bMultiplied)
def bLeadingPlace : DSt := (dSeq (dFor (dArg fEnum (dCons (dVar 0) dNil)) (Dv.tTup 2 (tsCons (tName 1) (tsCons (tName 2) tsNil))) (dIfS (dTest (dBin fNe (dVar 2) (dC (.int 0)))) (dRet (dVar 1)) dSkip))
  (dRet (dCall fLen (dCons (dVar 0) dNil))))
def mLeadingPlace : Fn := cleanD (defD 3 bLeadingPlace)
def bInverse : DSt := (dRet (dBin fIxS (dLc (dArg fRange2 (dCons (dC (.int 1)) (dCons (dVar 1) dNil))) [2] (tName 2) (dTest (dBin fEq (dBin fMod (dBin fMul (dVar 0) (dVar 2)) (dVar 1)) (dC (.int 1)))) (dVar 2)) (dC (.int 0))))
def mInverse : Fn := cleanD (defD 3 bInverse)
def bScaled : DSt := (dSeq (dAsg (dCall (fCall 1 mLeadingPlace) (dCons (dVar 0) dNil)) (tName 2))
  (dSeq (dIfS (dTest (dBin fEq (dVar 2) (dCall fLen (dCons (dVar 0) dNil)))) (dRet (dCall fTuple (dCons (dVar 0) dNil))) dSkip)
  (dRet (dCall (fCall 3 mMultiplied) (dCons (dVar 0) (dCons (dCall (fCall 2 mInverse) (dCons (dBin fIxS (dVar 0) (dVar 2)) (dCons (dVar 1) dNil))) (dCons (dVar 1) dNil)))))))
def mScaled : Fn := cleanD (defD 3 bScaled)
def bValue : DSt := (dRet (dBin fMod (dCall fSum (dCons (dLc (dArg fZip (dCons (dVar 0) (dCons (dVar 1) dNil))) [3, 4] (Dv.tTup 2 (tsCons (tName 3) (tsCons (tName 4) tsNil))) dYes (dBin fMul (dVar 3) (dVar 4))) dNil)) (dVar 2)))
def mValue : Fn := cleanD (defD 5 bValue)
structure OkS (s : Src) : Prop where
  sz : s.cells.length ≤ 63
  a0 : 0 ≤ s.at_
  s0 : 0 ≤ s.seed
  s1 : s.seed < 2147483587
theorem deq_int (i j : Int) : deq (.int i) (.int j) = decide (i = j) := by
  simp only [deq, toPy, PyData.eqv]; rfl
theorem feq_int (i j : Int) (μ : Mu) : fEq (.int i) (.int j) μ = some (.val (.bl (decide (i = j))), μ) := by
  simp only [fEq, plainD_int, Bool.and_self, if_true, deq_int, Dv.ret]
theorem sg1 (s : Src) : srcGet s 1 = some (.int s.at_) := rfl
theorem sg2 (s : Src) : srcGet s 2 = some (.int s.big) := rfl
theorem sg3 (s : Src) : srcGet s 3 = some (.int s.seed) := rfl
theorem sg4 (s : Src) : srcGet s 4 = some (.int s.cnt) := rfl
theorem sg0 (s : Src) (h : szl s.cells.length) : srcGet s 0 = some (.lst (intsD s.cells)) := by
  unfold srcGet; rw [if_pos rfl, if_pos h]
theorem ss1 (s : Src) (v : Int) : srcSet s 1 v = some { s with at_ := v } := rfl
theorem ss2 (s : Src) (v : Int) : srcSet s 2 v = some { s with big := v } := rfl
theorem ss3 (s : Src) (v : Int) : srcSet s 3 v = some { s with seed := v } := rfl
theorem ss4 (s : Src) (v : Int) : srcSet s 4 v = some { s with cnt := v } := rfl
theorem fmul_int (i j : Int) (μ : Mu) (h : j.natAbs < 18446744073709551616) : fMul (.int i) (.int j) μ = some (.val (.int (i * j)), μ) := by
  simp only [fMul, cmul, decide_eq_true h, Bool.or_true, if_true, Dv.ret]
theorem fmod_int (i j : Int) (μ : Mu) (h : 0 < j) : fMod (.int i) (.int j) μ = some (.val (.int (i % j)), μ) := by
  simp only [fMod, h, if_true, Dv.ret]
theorem fdiv_int (i j : Int) (μ : Mu) (h : 0 < j) (h2 : j < 1073741824) : fDiv (.int i) (.int j) μ = some (.val (.int (i / j)), μ) := by
  simp only [fDiv, h, h2, and_self, if_true, Dv.ret]
theorem fpow_1018 (μ : Mu) : fPow (.int 10) (.int 18) μ = some (.val (.int 1000000000000000000), μ) := by rfl
theorem ix_intsD (l : List Int) (i : Int) (h0 : 0 ≤ i) (h1 : i < l.length) : ∃ x, atI (intsD l) i = some (.int x) ∧ l[i.toNat]? = some x := by
  have hlt : i.toNat < l.length := by omega
  refine ⟨l[i.toNat], ?_, by simp [hlt]⟩
  unfold atI
  have e : ixN (intsD l).length i = some i.toNat := by
    unfold ixN
    rw [List.length_map, if_pos h0, if_pos h1]
  rw [e]
  simp [hlt]
theorem draw_ok (s : Src) (n : Int) (hs : OkS s) (h0 : 0 < n) (h1 : n < 1073741824) : ∃ r s', mDraw [.obj 0, .int n] [.src s] = some (.val (.int r), [.src s']) ∧ 0 ≤ r ∧ r < n ∧ OkS s' := by
  have hz : szl s.cells.length := Nat.le_trans hs.sz (by decide)
  suffices h : ∃ r s' env, bDraw [.v (.obj 0), .v (.int n), .no, .no, .no] [.src s] = some (.val (.ret (.int r)), env, [.src s']) ∧ 0 ≤ r ∧ r < n ∧ OkS s' by
    obtain ⟨r, s', env, e, a, b, c⟩ := h
    exact ⟨r, s', def_ret e rfl, a, b, c⟩
  unfold bDraw
  have hT : (dAndT (dTest (dBin fEq (dBin fIxS (dVar 0) (dC (.int 2))) (dC (.int 0)))) (dTest (dBin (fCmp fun i j => decide (i < j)) (dBin fIxS (dVar 0) (dC (.int 1))) (dCall fLen (dCons (dBin fIxS (dVar 0) (dC (.int 0))) dNil))))) [.v (.obj 0), .v (.int n), .no, .no, .no] [.src s] = some (.val (decide (s.big = 0) && decide (s.at_ < s.cells.length)), [.src s]) := by
    by_cases hb : s.big = 0
    all_goals simp only [dAndT, dTest, fTest, dBin, dC, dVar, bindR, Dv.ret, hold, fIxS, dCall, dCons, dNil, fLen, fCmp, feq_int, List.getElem?_cons_zero, sg1, sg2, sg0 s hz, hb, decide_true, decide_false, Bool.true_and, Bool.false_and, if_true, List.length_map, Bool.false_eq_true, if_false]
  have h2 : ∃ x s1, OkS s1 ∧ (dIfS (dAndT (dTest (dBin fEq (dBin fIxS (dVar 0) (dC (.int 2))) (dC (.int 0)))) (dTest (dBin (fCmp fun i j => decide (i < j)) (dBin fIxS (dVar 0) (dC (.int 1))) (dCall fLen (dCons (dBin fIxS (dVar 0) (dC (.int 0))) dNil))))) (dSeq (dAsg (dBin fIxS (dBin fIxS (dVar 0) (dC (.int 0))) (dBin fIxS (dVar 0) (dC (.int 1)))) (tName 2))
    (dSeq (dSetS (dBin fAdd (dBin fIxS (dVar 0) (dC (.int 1))) (dC (.int 1))) (dVar 0) (dC (.int 1)))
    (dIfS (dTest (dBin (fCmp fun i j => decide (j ≤ i)) (dVar 2) (dBin fPow (dC (.int 10)) (dC (.int 18))))) (dSetS (dVar 2) (dVar 0) (dC (.int 2))) (dSetS (dBin fMod (dCall fInt (dCons (dBin fAdd (dBin fAdd (dBin fMul (dBin fIxS (dVar 0) (dC (.int 3))) (dC (.int 45053))) (dBin fMul (dBin fMod (dCall fInt (dCons (dVar 2) dNil)) (dC (.int 2147483563))) (dC (.int 50033)))) (dC (.int 67))) dNil)) (dC (.int 2147483587))) (dVar 0) (dC (.int 3)))))) dSkip) [.v (.obj 0), .v (.int n), .no, .no, .no] [.src s] = some (.val .nx, [.v (.obj 0), .v (.int n), x, .no, .no], [.src s1]) := by
    by_cases hc : (decide (s.big = 0) && decide (s.at_ < s.cells.length)) = true
    · have hc' : s.big = 0 ∧ s.at_ < s.cells.length := by simpa using hc
      obtain ⟨c, e1, e2⟩ := ix_intsD s.cells s.at_ hs.a0 hc'.2
      by_cases hg : 1000000000000000000 ≤ c
      · refine ⟨.v (.int c), { s with at_ := s.at_ + 1, big := c }, ⟨hs.sz, by have := hs.a0; show 0 ≤ s.at_ + 1; omega, hs.s0, hs.s1⟩, ?_⟩
        refine ifs_t (μ' := [.src s]) (by rw [hT, hc]) ?_
        simp only [dSeq, dIfS, bindS, dSetS, fSetS, dAsg, tName, nobor, fIx, dTest, fTest, dBin, dC, dVar, bindR, Dv.ret, hold, fIxS, dCall, dCons, dNil, fLen, fCmp, fAdd, fpow_1018, List.getElem?_cons_zero, List.getElem?_cons_succ, List.set_cons_zero, List.set_cons_succ, sg1, sg2, sg3, sg4, ss1, ss2, ss3, ss4, sg0 s hz, e1, hg, decide_true, if_true]
      · refine ⟨.v (.int c), { s with at_ := s.at_ + 1, seed := (s.seed * 45053 + c % 2147483563 * 50033 + 67) % 2147483587 }, ⟨hs.sz, by have := hs.a0; show 0 ≤ s.at_ + 1; omega, by show 0 ≤ _ % 2147483587; omega, by show _ % 2147483587 < _; omega⟩, ?_⟩
        refine ifs_t (μ' := [.src s]) (by rw [hT, hc]) ?_
        simp only [dSeq, dIfS, bindS, dSetS, fSetS, dAsg, tName, nobor, fIx, dTest, fTest, dBin, dC, dVar, bindR, Dv.ret, hold, fIxS, dCall, dCons, dNil, fLen, fInt, fCmp, fAdd, fpow_1018, List.getElem?_cons_zero, List.getElem?_cons_succ, List.set_cons_zero, List.set_cons_succ, sg1, sg2, sg3, sg4, ss1, ss2, ss3, ss4, sg0 s hz, e1, hg, decide_true, decide_false, if_true, if_false, Bool.false_eq_true, fmul_int _ 45053 _ (by decide), fmul_int _ 50033 _ (by decide), fmod_int _ 2147483587 _ (by decide), fmod_int _ 2147483563 _ (by decide)]
    · refine ⟨.no, s, hs, ?_⟩
      refine ifs_f (μ' := [.src s]) (by rw [hT, Bool.eq_false_iff.mpr hc]) rfl
  obtain ⟨x, s1, hs1, e1⟩ := h2
  by_cases hb : 0 < s1.big
  · refine ⟨s1.big % n, { s1 with big := s1.big / n }, [.v (.obj 0), .v (.int n), x, .v (.int (s1.big % n)), .no], ?_, Int.emod_nonneg _ (by omega), Int.emod_lt_of_pos _ h0, ⟨hs1.sz, hs1.a0, hs1.s0, hs1.s1⟩⟩
    refine seq_nx e1 (seq_ret (d := .int (s1.big % n)) (ifs_t (μ' := [.src s1]) ?_ ?_))
    · simp only [dTest, fTest, dBin, dC, dVar, bindR, Dv.ret, hold, fIxS, fCmp, List.getElem?_cons_zero, List.getElem?_cons_succ, sg2, hb, decide_true]
    · simp only [dSeq, dRet, unbor, bindS, dSetS, fSetS, dAsg, tName, nobor, dBin, dC, dVar, bindR, Dv.ret, hold, fIxS, dCall, dCons, dNil, fInt, List.getElem?_cons_zero, List.getElem?_cons_succ, List.set_cons_zero, List.set_cons_succ, sg2, ss2, if_true, fmod_int _ n _ h0, fdiv_int _ n _ h0 h1]
  · refine ⟨((s1.seed * s1.seed + s1.seed * 33023 + (s1.cnt + 1) * 1299709 + 85571) % 2147483587 / 71 + (s1.seed * s1.seed + s1.seed * 33023 + (s1.cnt + 1) * 1299709 + 85571) % 2147483587 % 7907 * 59) % n, { s1 with cnt := s1.cnt + 1, seed := (s1.seed * s1.seed + s1.seed * 33023 + (s1.cnt + 1) * 1299709 + 85571) % 2147483587 }, [.v (.obj 0), .v (.int n), x, .no, .v (.int s1.seed)], ?_, ?_, ?_, ⟨hs1.sz, hs1.a0, ?_, ?_⟩⟩
    refine seq_nx e1 (seq_nx (ifs_f (μ' := [.src s1]) (r := some (.val .nx, [.v (.obj 0), .v (.int n), x, .no, .no], [.src s1])) ?_ rfl) ?_)
    · simp only [dTest, fTest, dBin, dC, dVar, bindR, Dv.ret, hold, fIxS, fCmp, List.getElem?_cons_zero, List.getElem?_cons_succ, sg2, hb, decide_false]
    · have q := hs1.s0
      have q2 := hs1.s1
      simp only [dSeq, dRet, unbor, bindS, dSetS, fSetS, dAsg, tName, nobor, dBin, dC, dVar, bindR, Dv.ret, hold, fIxS, dCall, dCons, dNil, fInt, fAdd, List.getElem?_cons_zero, List.getElem?_cons_succ, List.set_cons_zero, List.set_cons_succ, sg3, sg4, ss3, ss4, if_true, fmul_int _ s1.seed _ (by omega), fmul_int _ 33023 _ (by decide), fmul_int _ 1299709 _ (by decide), fmul_int _ 59 _ (by decide), fmod_int _ 2147483587 _ (by decide), fmod_int _ 7907 _ (by decide), fdiv_int _ 71 _ (by decide) (by decide), fmod_int _ n _ h0]
    · exact Int.emod_nonneg _ (by omega)
    · exact Int.emod_lt_of_pos _ h0
    · exact Int.emod_nonneg _ (by decide)
    · exact Int.emod_lt_of_pos _ (by decide)

/-! ### one of several -/
theorem fne_bl (a b : Bool) (μ : Mu) : fNe (.bl a) (.bl b) μ = some (.val (.bl (a != b)), μ) := by
  cases a <;> cases b <;> rfl
theorem feq_bl (a b : Bool) (μ : Mu) : fEq (.bl a) (.bl b) μ = some (.val (.bl (a == b)), μ) := by
  cases a <;> cases b <;> rfl
theorem fne_int (i j : Int) (μ : Mu) : fNe (.int i) (.int j) μ = some (.val (.bl (!decide (i = j))), μ) := by
  simp only [fNe, plainD_int, Bool.and_self, if_true, deq_int, Dv.ret]
theorem atI_of {α : Type} {l : List α} {i : Int} (h0 : 0 ≤ i) (h1 : i < l.length) : atI l i = l[i.toNat]? := by
  unfold atI ixN
  rw [if_pos h0, if_pos h1]; rfl
theorem of_ok (s : Src) (l : List D) (hs : OkS s) (hl : 0 < l.length) (hz : l.length ≤ 1000) (hn : ∀ d ∈ l, nobor d = true) (hn2 : ∀ d ∈ l, unbor d = d) : ∃ d s', d ∈ l ∧ mOf [.obj 0, .lst l] [.src s] = some (.val d, [.src s']) ∧ OkS s' := by
  obtain ⟨r, s', e, r0, r1, ho⟩ := draw_ok s l.length hs (by omega) (by omega)
  have hr : r.toNat < l.length := by omega
  refine ⟨l[r.toNat], s', List.getElem_mem hr, ?_, ho⟩
  refine def_ret (env := [.v (.obj 0), .v (.lst l)]) ?_ (hn _ (List.getElem_mem hr))
  show bOf [.v (.obj 0), .v (.lst l)] [.src s] = _
  have e2 : atI l r = some l[r.toNat] := by rw [atI_of r0 r1]; simp [hr]
  simp only [bOf, dRet, bindS, dBin, dVar, dCall, dCons, dNil, fLen, bindR, Dv.ret, hold, List.getElem?_cons_zero, List.getElem?_cons_succ, fCall, List.length_cons, List.length_nil, List.all_cons, List.all_nil, nobor, Bool.and_self, and_self, if_true, e, fIxS, fIx, e2, hn2 _ (List.getElem_mem hr), Nat.zero_add, Nat.reduceAdd]
end Dv

/-! DvR: rows of ints, likeness. -/
namespace Dv
open PySem PySem.Spec PyProof.Rows L2
/-! ### like -/
def lkD : Nat → D → Bool
  | _, .non => true
  | _, .bl _ => true
  | _, .int _ => true
  | _, .str x => PyData.strOk x
  | n + 1, .tup l => l.all (lkD n)
  | n + 1, .lst l => l.all (lkD n)
  | _, _ => false
theorem lk_nobor {n : Nat} {d : D} (h : lkD n d = true) : nobor d = true := by
  cases d <;> first | rfl | (cases n <;> simp [lkD] at h)
theorem lk_hold {n : Nat} {d : D} (h : lkD n d = true) : hold d = d := by
  cases d <;> first | rfl | (cases n <;> simp [lkD] at h)
theorem zip_self (l : List D) : List.zipWith pairD l l = l.map fun d => pairD d d := by
  induction l with
  | nil => rfl
  | cons a l ih => simp [ih]
theorem asBls_true (l : List D) : asBls (l.map fun _ => D.bl true) = some (l.map fun _ => true) := by
  induction l with
  | nil => rfl
  | cons a l ih =>
    simp only [List.map_cons]
    unfold asBls
    rw [ih]; rfl
theorem asBls_bls (l : List Bool) : asBls (l.map D.bl) = some l := by
  induction l with
  | nil => rfl
  | cons a l ih =>
    simp only [List.map_cons]
    unfold asBls
    rw [ih]; rfl
theorem isi_tup_l (l : List D) (μ : Mu) : fIsi [.tup l, .ty "list"] μ = some (.val (.bl false), μ) := by rfl
theorem isi_tup_t (l : List D) (μ : Mu) : fIsi [.tup l, .ty "tuple"] μ = some (.val (.bl true), μ) := by rfl
theorem isi_lst_l (l : List D) (μ : Mu) : fIsi [.lst l, .ty "list"] μ = some (.val (.bl true), μ) := by rfl
theorem isi_lst_t (l : List D) (μ : Mu) : fIsi [.lst l, .ty "tuple"] μ = some (.val (.bl false), μ) := by rfl
theorem isi_tup_b (l : List D) (μ : Mu) : fIsi [.tup l, .tup [.ty "list", .ty "tuple"]] μ = some (.val (.bl true), μ) := by rfl
theorem isi_lst_b (l : List D) (μ : Mu) : fIsi [.lst l, .tup [.ty "list", .ty "tuple"]] μ = some (.val (.bl true), μ) := by rfl
theorem isi_non_b (μ : Mu) : fIsi [.non, .tup [.ty "list", .ty "tuple"]] μ = some (.val (.bl false), μ) := by rfl
theorem isi_bl_b (b : Bool) (μ : Mu) : fIsi [.bl b, .tup [.ty "list", .ty "tuple"]] μ = some (.val (.bl false), μ) := by rfl
theorem isi_int_b (b : Int) (μ : Mu) : fIsi [.int b, .tup [.ty "list", .ty "tuple"]] μ = some (.val (.bl false), μ) := by rfl
theorem isi_str_b (b : Str) (μ : Mu) : fIsi [.str b, .tup [.ty "list", .ty "tuple"]] μ = some (.val (.bl false), μ) := by rfl
theorem isi_bl (b : Bool) (μ : Mu) (t : String) (ht : t = "int" ∨ t = "bool" ∨ t = "str") : fIsi [.bl b, .ty t] μ = some (.val (.bl (decide (t ≠ "str"))), μ) := by
  rcases ht with rfl | rfl | rfl <;> rfl
theorem isi_int (b : Int) (μ : Mu) (t : String) (ht : t = "int" ∨ t = "bool" ∨ t = "str") : fIsi [.int b, .ty t] μ = some (.val (.bl (decide (t = "int"))), μ) := by
  rcases ht with rfl | rfl | rfl <;> rfl
theorem isi_str (b : Str) (μ : Mu) (t : String) (ht : t = "int" ∨ t = "bool" ∨ t = "str") : fIsi [.str b, .ty t] μ = some (.val (.bl (decide (t = "str"))), μ) := by
  rcases ht with rfl | rfl | rfl <;> rfl
theorem feq_bl_self (a : Bool) (μ : Mu) : fEq (.bl a) (.bl a) μ = some (.val (.bl true), μ) := by cases a <;> rfl
theorem fne_bl_self (a : Bool) (μ : Mu) : fNe (.bl a) (.bl a) μ = some (.val (.bl false), μ) := by cases a <;> rfl
theorem deq_str (x : Str) : deq (.str x) (.str x) = true := by
  simp [deq, toPy, PyData.eqv]
theorem feq_str_self (x : Str) (h : PyData.strOk x = true) (μ : Mu) : fEq (.str x) (.str x) μ = some (.val (.bl true), μ) := by
  have hp : plainD 60 (.str x) = true := by unfold plainD; exact h
  simp only [fEq, hp, Bool.and_self, if_true, deq_str, Dv.ret]
theorem like_seq {x y : SV} {n : Nat} {l : List D} {μ : Mu} (hn : ∀ d ∈ l, nobor d = true) (hh : ∀ d ∈ l, hold d = d) (ih : ∀ d ∈ l, mLike n [d, d] μ = some (.val (.bl true), μ)) :
    lcRun (Dv.tTup 2 (tsCons (tName 2) (tsCons (tName 3) tsNil))) dYes (dCall (fCall 2 (mLike n)) (dCons (dVar 2) (dCons (dVar 3) dNil))) [x, y, .no, .no] (List.zipWith pairD l l) μ = some (l.map fun _ => .bl true, μ) := by
  rw [zip_self, lc_map (fun d => pairD d d) (fun _ => .bl true)]
  · rfl
  · intro d hd
    refine ⟨[x, y, .v d, .v d], rfl, rfl, ?_, rfl⟩
    simp only [dCall, dCons, dNil, dVar, bindR, Dv.ret, hh d hd, List.getElem?_cons_zero, List.getElem?_cons_succ, fCall, List.length_cons, List.length_nil, List.all_cons, List.all_nil, hn d hd, Bool.and_self, and_self, if_true, ih d hd, Nat.zero_add, Nat.reduceAdd]
/-- what is like itself -/
theorem like_refl {μ : Mu} : ∀ (n : Nat) (d : D), lkD n d = true → mLike (n + 1) [d, d] μ = some (.val (.bl true), μ) := by
  intro n
  induction n with
  | zero => ?_
  | succ n ih => ?_
  all_goals intro d hd
  all_goals refine def_ret (env := [.v d, .v d, .no, .no]) ?_ rfl
  all_goals show bLike _ [.v d, .v d, .no, .no] μ = _
  all_goals cases d
  all_goals try (simp [lkD] at hd; done)
  all_goals try simp (decide := true) only [bLike, dSeq, dIfS, dRet, dSkip, unbor, bindS, dTest, fTest, dBin, dC, dVar, dOrT, dAndV, bindR, Dv.ret, hold, dCall, dCons, dNil, dTup, fTup, List.all_cons, List.all_nil, nobor, Bool.and_self, and_self, if_true, List.length_cons, List.length_nil, List.getElem?_cons_zero, List.getElem?_cons_succ, isi_non_b, isi_bl_b, isi_int_b, isi_str_b, fIs, isNon, bne_self_eq_false, isi_bl _ _ "bool" (.inr (.inl rfl)), isi_bl _ _ "int" (.inl rfl), isi_bl _ _ "str" (.inr (.inr rfl)), isi_int _ _ "bool" (.inr (.inl rfl)), isi_int _ _ "int" (.inl rfl), isi_int _ _ "str" (.inr (.inr rfl)), isi_str _ _ "bool" (.inr (.inl rfl)), isi_str _ _ "int" (.inl rfl), isi_str _ _ "str" (.inr (.inr rfl)), fne_bl_self, feq_bl_self, feq_int, decide_true, Bool.false_eq_true, if_false, Bool.false_bne]
  case zero.str x => rw [feq_str_self x (by simpa [lkD] using hd)]
  case succ.str x => rw [feq_str_self x (by simpa [lkD] using hd)]
  case succ.tup l =>
    have hl : ∀ d ∈ l, lkD n d = true := List.all_eq_true.mp (by simpa [lkD] using hd)
    have hc : dLc (dArg fZip (dCons (dVar 0) (dCons (dVar 1) dNil))) [2, 3] (Dv.tTup 2 (tsCons (tName 2) (tsCons (tName 3) tsNil))) dYes (dCall (fCall 2 (mLike (n + 1))) (dCons (dVar 2) (dCons (dVar 3) dNil))) [.v (.tup l), .v (.tup l), .no, .no] μ = some (.val (.new (l.map fun _ => .bl true)), μ) :=
      dLc_of rfl rfl (like_seq (fun d hd => lk_nobor (hl d hd)) (fun d hd => lk_hold (hl d hd)) fun d hd => ih d (hl d hd))
    have ha : fAll [.lst (l.map fun _ => .bl true)] μ = some (.val (.bl true), μ) := by
      have e : (l.map fun _ => true).all id = true := by rw [List.all_map]; exact List.all_eq_true.mpr fun _ _ => rfl
      simp only [fAll, seqL, asBls_true, e, Dv.ret]
    simp (decide := true) only [isi_tup_b, isi_tup_l, isi_tup_t, hc, ha, fne_bl_self, feq_int, decide_true, if_true, Bool.false_eq_true, if_false, fLen, List.getElem?_cons_zero, List.getElem?_cons_succ, hold]
  case succ.lst l =>
    have hl : ∀ d ∈ l, lkD n d = true := List.all_eq_true.mp (by simpa [lkD] using hd)
    have hc : dLc (dArg fZip (dCons (dVar 0) (dCons (dVar 1) dNil))) [2, 3] (Dv.tTup 2 (tsCons (tName 2) (tsCons (tName 3) tsNil))) dYes (dCall (fCall 2 (mLike (n + 1))) (dCons (dVar 2) (dCons (dVar 3) dNil))) [.v (.lst l), .v (.lst l), .no, .no] μ = some (.val (.new (l.map fun _ => .bl true)), μ) :=
      dLc_of rfl rfl (like_seq (fun d hd => lk_nobor (hl d hd)) (fun d hd => lk_hold (hl d hd)) fun d hd => ih d (hl d hd))
    have ha : fAll [.lst (l.map fun _ => .bl true)] μ = some (.val (.bl true), μ) := by
      have e : (l.map fun _ => true).all id = true := by rw [List.all_map]; exact List.all_eq_true.mpr fun _ _ => rfl
      simp only [fAll, seqL, asBls_true, e, Dv.ret]
    simp (decide := true) only [isi_lst_b, isi_lst_l, isi_lst_t, hc, ha, fne_bl_self, feq_int, decide_true, if_true, Bool.false_eq_true, if_false, fLen, List.getElem?_cons_zero, List.getElem?_cons_succ, hold]
end Dv

/-! DvS: what the helpers of rows answer. -/
namespace Dv
open PySem PySem.Spec PyProof.Rows L2
theorem hold_new (l : List D) : hold (.new l) = .lst l := rfl
theorem hold_lst (l : List D) : hold (.lst l) = .lst l := rfl
theorem hold_tup (l : List D) : hold (.tup l) = .tup l := rfl
theorem hold_bor (l : List D) : hold (.bor l) = .bor l := rfl
theorem hold_int (i : Int) : hold (.int i) = .int i := rfl
theorem hold_bl (i : Bool) : hold (.bl i) = .bl i := rfl
theorem hold_str (i : Str) : hold (.str i) = .str i := rfl
theorem hold_obj (i : Nat) : hold (.obj i) = .obj i := rfl
theorem hold_ty (i : String) : hold (.ty i) = .ty i := rfl
theorem hold_non : hold .non = .non := rfl
theorem nobor_new (l : List D) : nobor (.new l) = true := rfl
theorem nobor_lst (l : List D) : nobor (.lst l) = true := rfl
theorem nobor_tup (l : List D) : nobor (.tup l) = true := rfl
theorem nobor_int (i : Int) : nobor (.int i) = true := rfl
theorem nobor_bl (i : Bool) : nobor (.bl i) = true := rfl
theorem nobor_str (i : Str) : nobor (.str i) = true := rfl
theorem nobor_obj (i : Nat) : nobor (.obj i) = true := rfl
theorem nobor_ty (i : String) : nobor (.ty i) = true := rfl
theorem nobor_non : nobor .non = true := rfl
theorem intsD_of {P : Int → Prop} : ∀ {xs : List D}, (∀ d ∈ xs, ∃ x, d = .int x ∧ P x) → ∃ l, xs = intsD l ∧ ∀ x ∈ l, P x
  | [], _ => ⟨[], rfl, fun _ h => absurd h List.not_mem_nil⟩
  | d :: xs, h => by
    obtain ⟨x, rfl, hx⟩ := h d List.mem_cons_self
    obtain ⟨l, rfl, hl⟩ := intsD_of fun d hd => h d (List.mem_cons_of_mem _ hd)
    exact ⟨x :: l, rfl, fun y hy => (List.mem_cons.mp hy).elim (fun e => e ▸ hx) (hl y)⟩
theorem range1_ (n : Int) (μ : Mu) (h0 : 0 ≤ n) (h1 : n ≤ 16777216) : fRange1 [.int n] μ = some (.val (rangeD 0 n), μ) := by
  have a : small62 n = true := by unfold small62; simp; omega
  have b : szl (n - 0).toNat := by show _ ≤ _; omega
  simp only [fRange1, a, b, and_self, if_true, Dv.ret]
theorem range2_ (m n : Int) (μ : Mu) (h0 : 0 ≤ m) (h : m ≤ 16777216) (h2 : 0 ≤ n) (h1 : n ≤ 16777216) : fRange2 [.int m, .int n] μ = some (.val (rangeD m n), μ) := by
  have a : small62 n = true := by unfold small62; simp; omega
  have c : small62 m = true := by unfold small62; simp; omega
  have b : szl (n - m).toNat := by show _ ≤ _; omega
  simp only [fRange2, a, b, c, and_self, if_true, Dv.ret]
theorem mem_rangeD {m n : Int} {d : D} (h : d ∈ rangeD m n) : ∃ i : Int, d = .int i ∧ m ≤ i ∧ i < n := by
  unfold rangeD at h
  obtain ⟨i, hi, rfl⟩ := List.mem_map.mp h
  have := List.mem_range.mp hi
  exact ⟨m + i, rfl, by omega, by omega⟩
theorem row_ok (s : Src) (p n : Int) (hs : OkS s) (h0 : 0 < p) (h1 : p < 1073741824) (n0 : 0 ≤ n) (n1 : n ≤ 1000) :
    ∃ l s', mRow [.obj 0, .int p, .int n] [.src s] = some (.val (tupI l), [.src s']) ∧ (l.length : Int) = n ∧ (∀ x ∈ l, 0 ≤ x ∧ x < p) ∧ OkS s' := by
  obtain ⟨xs, μ', e1, e2, ⟨s', rfl, hs'⟩, e4⟩ := lc_inv (tg := tName 3) (tt := dYes) (el := dCall (fCall 2 mDraw) (dCons (dVar 0) (dCons (dVar 1) dNil))) (env := [.v (.obj 0), .v (.int p), .v (.int n), .no])
    (fun μ => ∃ s, μ = [.src s] ∧ OkS s) (fun d => ∃ x, d = .int x ∧ 0 ≤ x ∧ x < p) (rangeD 0 n) (fun d hd μ ⟨s, e, hs⟩ => by
      subst e
      obtain ⟨r, s', e, a, b, c⟩ := draw_ok s p hs h0 h1
      refine ⟨[.v (.obj 0), .v (.int p), .v (.int n), .v d], .int r, [.src s'], rfl, rfl, ?_, rfl, ⟨s', rfl, c⟩, r, rfl, a, b⟩
      simp (decide := true) only [dSeq, dIfS, dRet, dSkip, dAsg, tName, unbor, bindS, dTest, fTest, dBin, dC, dVar, dNotT, dAndT, dOrT, dAndV, dOrV, dIf, bindR, Dv.ret, hold_new, hold_int, hold_bl, hold_tup, hold_lst, hold_obj, hold_str, hold_non, hold_ty, hold_bor, dCall, dCons, dNil, dIter, fIter, dArg, nobor_new, nobor_int, nobor_bl, nobor_tup, nobor_lst, nobor_obj, nobor_str, nobor_non, nobor_ty, Bool.and_self, and_self, if_true, if_false, Bool.false_eq_true, Bool.not_true, Bool.not_false, List.all_cons, List.all_nil, List.length_cons, List.length_nil, Nat.zero_add, Nat.reduceAdd, List.getElem?_cons_zero, List.getElem?_cons_succ, List.set_cons_zero, List.set_cons_succ, fCall, decide_true, decide_false, e]) [.src s] ⟨s, rfl, hs⟩
  obtain ⟨l, rfl, hl⟩ := intsD_of e4
  refine ⟨l, s', def_ret (env := [.v (.obj 0), .v (.int p), .v (.int n), .no]) ?_ rfl, ?_, hl, hs'⟩
  · show bRow [.v (.obj 0), .v (.int p), .v (.int n), .no] _ = _
    have hc := dLc_of (it := dArg fRange1 (dCons (dVar 2) dNil)) (own := [3]) (env := [.v (.obj 0), .v (.int p), .v (.int n), .no]) (μ := [.src s]) rfl (by
      simp (decide := true) only [dSeq, dIfS, dRet, dSkip, dAsg, tName, unbor, bindS, dTest, fTest, dBin, dC, dVar, dNotT, dAndT, dOrT, dAndV, dOrV, dIf, bindR, Dv.ret, hold_new, hold_int, hold_bl, hold_tup, hold_lst, hold_obj, hold_str, hold_non, hold_ty, hold_bor, dCall, dCons, dNil, dIter, fIter, dArg, nobor_new, nobor_int, nobor_bl, nobor_tup, nobor_lst, nobor_obj, nobor_str, nobor_non, nobor_ty, Bool.and_self, and_self, if_true, if_false, Bool.false_eq_true, Bool.not_true, Bool.not_false, List.all_cons, List.all_nil, List.length_cons, List.length_nil, Nat.zero_add, Nat.reduceAdd, List.getElem?_cons_zero, List.getElem?_cons_succ, List.set_cons_zero, List.set_cons_succ, fCall, decide_true, decide_false, range1_ n _ n0 (by omega)]) e1
    simp (decide := true) only [bRow, hc, dSeq, dIfS, dRet, dSkip, dAsg, tName, unbor, bindS, dTest, fTest, dBin, dC, dVar, dNotT, dAndT, dOrT, dAndV, dOrV, dIf, bindR, Dv.ret, hold_new, hold_int, hold_bl, hold_tup, hold_lst, hold_obj, hold_str, hold_non, hold_ty, hold_bor, dCall, dCons, dNil, dIter, fIter, dArg, nobor_new, nobor_int, nobor_bl, nobor_tup, nobor_lst, nobor_obj, nobor_str, nobor_non, nobor_ty, Bool.and_self, and_self, if_true, if_false, Bool.false_eq_true, Bool.not_true, Bool.not_false, List.all_cons, List.all_nil, List.length_cons, List.length_nil, Nat.zero_add, Nat.reduceAdd, List.getElem?_cons_zero, List.getElem?_cons_succ, List.set_cons_zero, List.set_cons_succ, fCall, decide_true, decide_false, fTuple]
  · rw [List.length_map, rangeD_len] at e2; omega
theorem seqD_hold {X : D} {l : List D} (h : seqD X = some l) : hold X = X ∧ nobor X = true ∧ fIter X = fun μ => some (.val l, μ) := by
  cases X <;> first | cases h; exact ⟨rfl, rfl, rfl⟩ | cases h
theorem fzip_ {X Y : D} {xs ys : List Int} {μ : Mu} (hX : seqD X = some (intsD xs)) (hY : seqD Y = some (intsD ys)) : fZip [X, Y] μ = some (.val ((xs.zip ys).map fun q => pairD (.int q.1) (.int q.2)), μ) := by
  simp only [fZip, hX, hY, Dv.ret, zip_ints]
theorem added_ok {X Y : D} {xs ys : List Int} {p : Int} {μ : Mu} (hX : seqD X = some (intsD xs)) (hY : seqD Y = some (intsD ys)) (hp : 0 < p) :
    mAdded [X, Y, .int p] μ = some (.val (tupI ((xs.zip ys).map fun q => (q.1 + q.2) % p)), μ) := by
  refine def_ret (env := [.v X, .v Y, .v (.int p), .no, .no]) ?_ rfl
  show bAdded [.v X, .v Y, .v (.int p), .no, .no] μ = _
  have hc := dLc_of (it := dArg fZip (dCons (dVar 0) (dCons (dVar 1) dNil))) (own := [3, 4]) (env := [.v X, .v Y, .v (.int p), .no, .no]) (μ := μ) rfl (by
      simp (decide := true) only [dSeq, dIfS, dRet, dSkip, dAsg, tName, unbor, bindS, dTest, fTest, dBin, dC, dVar, dNotT, dAndT, dOrT, dAndV, dOrV, dIf, bindR, Dv.ret, hold_new, hold_int, hold_bl, hold_tup, hold_lst, hold_obj, hold_str, hold_non, hold_ty, hold_bor, dCall, dCons, dNil, dIter, fIter, dArg, nobor_new, nobor_int, nobor_bl, nobor_tup, nobor_lst, nobor_obj, nobor_str, nobor_non, nobor_ty, Bool.and_self, and_self, if_true, if_false, Bool.false_eq_true, Bool.not_true, Bool.not_false, List.all_cons, List.all_nil, List.length_cons, List.length_nil, Nat.zero_add, Nat.reduceAdd, List.getElem?_cons_zero, List.getElem?_cons_succ, List.set_cons_zero, List.set_cons_succ, fCall, decide_true, decide_false, (seqD_hold hX).1, (seqD_hold hY).1, fzip_ hX hY]) (lc_map (fun q : Int × Int => pairD (.int q.1) (.int q.2)) (fun q => .int ((q.1 + q.2) % p)) (xs.zip ys) (tt := dYes) (tg := Dv.tTup 2 (tsCons (tName 3) (tsCons (tName 4) tsNil))) (el := dBin fMod (dBin fAdd (dVar 3) (dVar 4)) (dVar 2)) (μ := μ) (fun q hq => by
        refine ⟨[.v X, .v Y, .v (.int p), .v (.int q.1), .v (.int q.2)], rfl, rfl, ?_, rfl⟩
        simp (decide := true) only [dSeq, dIfS, dRet, dSkip, dAsg, tName, unbor, bindS, dTest, fTest, dBin, dC, dVar, dNotT, dAndT, dOrT, dAndV, dOrV, dIf, bindR, Dv.ret, hold_new, hold_int, hold_bl, hold_tup, hold_lst, hold_obj, hold_str, hold_non, hold_ty, hold_bor, dCall, dCons, dNil, dIter, fIter, dArg, nobor_new, nobor_int, nobor_bl, nobor_tup, nobor_lst, nobor_obj, nobor_str, nobor_non, nobor_ty, Bool.and_self, and_self, if_true, if_false, Bool.false_eq_true, Bool.not_true, Bool.not_false, List.all_cons, List.all_nil, List.length_cons, List.length_nil, Nat.zero_add, Nat.reduceAdd, List.getElem?_cons_zero, List.getElem?_cons_succ, List.set_cons_zero, List.set_cons_succ, fCall, decide_true, decide_false, fAdd, fmod_int _ _ _ hp]))
  simp (decide := true) only [bAdded, hc, dSeq, dIfS, dRet, dSkip, dAsg, tName, unbor, bindS, dTest, fTest, dBin, dC, dVar, dNotT, dAndT, dOrT, dAndV, dOrV, dIf, bindR, Dv.ret, hold_new, hold_int, hold_bl, hold_tup, hold_lst, hold_obj, hold_str, hold_non, hold_ty, hold_bor, dCall, dCons, dNil, dIter, fIter, dArg, nobor_new, nobor_int, nobor_bl, nobor_tup, nobor_lst, nobor_obj, nobor_str, nobor_non, nobor_ty, Bool.and_self, and_self, if_true, if_false, Bool.false_eq_true, Bool.not_true, Bool.not_false, List.all_cons, List.all_nil, List.length_cons, List.length_nil, Nat.zero_add, Nat.reduceAdd, List.getElem?_cons_zero, List.getElem?_cons_succ, List.set_cons_zero, List.set_cons_succ, fCall, decide_true, decide_false, fTuple, tupI, intsD, List.map_map, Function.comp_def]
theorem sum_ok {X Y : D} {xs ys : List Int} {p f : Int} {μ : Mu} (hX : seqD X = some (intsD xs)) (hY : seqD Y = some (intsD ys)) (hp : 0 < p) (hf : ∀ y ∈ ys, 0 ≤ y ∧ y < 1000000) :
    mSum [.int p, X, Y, .int f] μ = some (.val (tupI ((xs.zip ys).map fun q => (q.1 + f * q.2) % p)), μ) := by
  refine def_ret (env := [.v (.int p), .v X, .v Y, .v (.int f), .no, .no]) ?_ rfl
  show bSum [.v (.int p), .v X, .v Y, .v (.int f), .no, .no] μ = _
  have hc := dLc_of (it := dArg fZip (dCons (dVar 1) (dCons (dVar 2) dNil))) (own := [4, 5]) (env := [.v (.int p), .v X, .v Y, .v (.int f), .no, .no]) (μ := μ) rfl (by
      simp (decide := true) only [dSeq, dIfS, dRet, dSkip, dAsg, tName, unbor, bindS, dTest, fTest, dBin, dC, dVar, dNotT, dAndT, dOrT, dAndV, dOrV, dIf, bindR, Dv.ret, hold_new, hold_int, hold_bl, hold_tup, hold_lst, hold_obj, hold_str, hold_non, hold_ty, hold_bor, dCall, dCons, dNil, dIter, fIter, dArg, nobor_new, nobor_int, nobor_bl, nobor_tup, nobor_lst, nobor_obj, nobor_str, nobor_non, nobor_ty, Bool.and_self, and_self, if_true, if_false, Bool.false_eq_true, Bool.not_true, Bool.not_false, List.all_cons, List.all_nil, List.length_cons, List.length_nil, Nat.zero_add, Nat.reduceAdd, List.getElem?_cons_zero, List.getElem?_cons_succ, List.set_cons_zero, List.set_cons_succ, fCall, decide_true, decide_false, (seqD_hold hX).1, (seqD_hold hY).1, fzip_ hX hY]) (lc_map (fun q : Int × Int => pairD (.int q.1) (.int q.2)) (fun q => .int ((q.1 + f * q.2) % p)) (xs.zip ys) (tt := dYes) (tg := Dv.tTup 2 (tsCons (tName 4) (tsCons (tName 5) tsNil))) (el := dBin fMod (dCall fInt (dCons (dBin fAdd (dVar 4) (dBin fMul (dVar 3) (dVar 5))) dNil)) (dVar 0)) (μ := μ) (fun q hq => by
        have hy := hf _ (List.of_mem_zip hq).2
        refine ⟨[.v (.int p), .v X, .v Y, .v (.int f), .v (.int q.1), .v (.int q.2)], rfl, rfl, ?_, rfl⟩
        simp (decide := true) only [dSeq, dIfS, dRet, dSkip, dAsg, tName, unbor, bindS, dTest, fTest, dBin, dC, dVar, dNotT, dAndT, dOrT, dAndV, dOrV, dIf, bindR, Dv.ret, hold_new, hold_int, hold_bl, hold_tup, hold_lst, hold_obj, hold_str, hold_non, hold_ty, hold_bor, dCall, dCons, dNil, dIter, fIter, dArg, nobor_new, nobor_int, nobor_bl, nobor_tup, nobor_lst, nobor_obj, nobor_str, nobor_non, nobor_ty, Bool.and_self, and_self, if_true, if_false, Bool.false_eq_true, Bool.not_true, Bool.not_false, List.all_cons, List.all_nil, List.length_cons, List.length_nil, Nat.zero_add, Nat.reduceAdd, List.getElem?_cons_zero, List.getElem?_cons_succ, List.set_cons_zero, List.set_cons_succ, fCall, decide_true, decide_false, fAdd, fInt, fmul_int _ q.2 _ (by omega), fmod_int _ _ _ hp]))
  simp (decide := true) only [bSum, hc, dSeq, dIfS, dRet, dSkip, dAsg, tName, unbor, bindS, dTest, fTest, dBin, dC, dVar, dNotT, dAndT, dOrT, dAndV, dOrV, dIf, bindR, Dv.ret, hold_new, hold_int, hold_bl, hold_tup, hold_lst, hold_obj, hold_str, hold_non, hold_ty, hold_bor, dCall, dCons, dNil, dIter, fIter, dArg, nobor_new, nobor_int, nobor_bl, nobor_tup, nobor_lst, nobor_obj, nobor_str, nobor_non, nobor_ty, Bool.and_self, and_self, if_true, if_false, Bool.false_eq_true, Bool.not_true, Bool.not_false, List.all_cons, List.all_nil, List.length_cons, List.length_nil, Nat.zero_add, Nat.reduceAdd, List.getElem?_cons_zero, List.getElem?_cons_succ, List.set_cons_zero, List.set_cons_succ, fCall, decide_true, decide_false, fTuple, tupI, intsD, List.map_map, Function.comp_def]
theorem multiplied_ok {X : D} {xs : List Int} {p f : Int} {μ : Mu} (hX : seqD X = some (intsD xs)) (hp : 0 < p) (h0 : 0 ≤ f) (h1 : f < 1000000) :
    mMultiplied [X, .int f, .int p] μ = some (.val (tupI (xs.map fun x => x * f % p)), μ) := by
  refine def_ret (env := [.v X, .v (.int f), .v (.int p), .no]) ?_ rfl
  show bMultiplied [.v X, .v (.int f), .v (.int p), .no] μ = _
  have hc := dLc_of (it := dIter (dVar 0)) (own := [3]) (env := [.v X, .v (.int f), .v (.int p), .no]) (μ := μ) rfl (by
      simp (decide := true) only [dSeq, dIfS, dRet, dSkip, dAsg, tName, unbor, bindS, dTest, fTest, dBin, dC, dVar, dNotT, dAndT, dOrT, dAndV, dOrV, dIf, bindR, Dv.ret, hold_new, hold_int, hold_bl, hold_tup, hold_lst, hold_obj, hold_str, hold_non, hold_ty, hold_bor, dCall, dCons, dNil, dIter, dArg, nobor_new, nobor_int, nobor_bl, nobor_tup, nobor_lst, nobor_obj, nobor_str, nobor_non, nobor_ty, Bool.and_self, and_self, if_true, if_false, Bool.false_eq_true, Bool.not_true, Bool.not_false, List.all_cons, List.all_nil, List.length_cons, List.length_nil, Nat.zero_add, Nat.reduceAdd, List.getElem?_cons_zero, List.getElem?_cons_succ, List.set_cons_zero, List.set_cons_succ, fCall, decide_true, decide_false, (seqD_hold hX).2.2]) (lc_map D.int (fun x => .int (x * f % p)) xs (tt := dYes) (tg := tName 3) (el := dBin fMod (dBin fMul (dVar 3) (dVar 1)) (dVar 2)) (μ := μ) (fun q hq => by
        refine ⟨[.v X, .v (.int f), .v (.int p), .v (.int q)], rfl, rfl, ?_, rfl⟩
        simp (decide := true) only [dSeq, dIfS, dRet, dSkip, dAsg, tName, unbor, bindS, dTest, fTest, dBin, dC, dVar, dNotT, dAndT, dOrT, dAndV, dOrV, dIf, bindR, Dv.ret, hold_new, hold_int, hold_bl, hold_tup, hold_lst, hold_obj, hold_str, hold_non, hold_ty, hold_bor, dCall, dCons, dNil, dIter, fIter, dArg, nobor_new, nobor_int, nobor_bl, nobor_tup, nobor_lst, nobor_obj, nobor_str, nobor_non, nobor_ty, Bool.and_self, and_self, if_true, if_false, Bool.false_eq_true, Bool.not_true, Bool.not_false, List.all_cons, List.all_nil, List.length_cons, List.length_nil, Nat.zero_add, Nat.reduceAdd, List.getElem?_cons_zero, List.getElem?_cons_succ, List.set_cons_zero, List.set_cons_succ, fCall, decide_true, decide_false, fmul_int _ f _ (by omega), fmod_int _ _ _ hp]))
  simp (decide := true) only [bMultiplied, hc, dSeq, dIfS, dRet, dSkip, dAsg, tName, unbor, bindS, dTest, fTest, dBin, dC, dVar, dNotT, dAndT, dOrT, dAndV, dOrV, dIf, bindR, Dv.ret, hold_new, hold_int, hold_bl, hold_tup, hold_lst, hold_obj, hold_str, hold_non, hold_ty, hold_bor, dCall, dCons, dNil, dIter, fIter, dArg, nobor_new, nobor_int, nobor_bl, nobor_tup, nobor_lst, nobor_obj, nobor_str, nobor_non, nobor_ty, Bool.and_self, and_self, if_true, if_false, Bool.false_eq_true, Bool.not_true, Bool.not_false, List.all_cons, List.all_nil, List.length_cons, List.length_nil, Nat.zero_add, Nat.reduceAdd, List.getElem?_cons_zero, List.getElem?_cons_succ, List.set_cons_zero, List.set_cons_succ, fCall, decide_true, decide_false, fTuple, tupI, intsD, List.map_map, Function.comp_def]
theorem value_ok {X Y : D} {xs ys : List Int} {p : Int} {μ : Mu} (hX : seqD X = some (intsD xs)) (hY : seqD Y = some (intsD ys)) (hp : 0 < p) (hf : ∀ y ∈ ys, 0 ≤ y ∧ y < 1000000) :
    mValue [X, Y, .int p] μ = some (.val (.int (((xs.zip ys).map fun q => q.1 * q.2).sum % p)), μ) := by
  refine def_ret (env := [.v X, .v Y, .v (.int p), .no, .no]) ?_ rfl
  show bValue [.v X, .v Y, .v (.int p), .no, .no] μ = _
  have hc := dLc_of (it := dArg fZip (dCons (dVar 0) (dCons (dVar 1) dNil))) (own := [3, 4]) (env := [.v X, .v Y, .v (.int p), .no, .no]) (μ := μ) rfl (by
      simp (decide := true) only [dSeq, dIfS, dRet, dSkip, dAsg, tName, unbor, bindS, dTest, fTest, dBin, dC, dVar, dNotT, dAndT, dOrT, dAndV, dOrV, dIf, bindR, Dv.ret, hold_new, hold_int, hold_bl, hold_tup, hold_lst, hold_obj, hold_str, hold_non, hold_ty, hold_bor, dCall, dCons, dNil, dIter, fIter, dArg, nobor_new, nobor_int, nobor_bl, nobor_tup, nobor_lst, nobor_obj, nobor_str, nobor_non, nobor_ty, Bool.and_self, and_self, if_true, if_false, Bool.false_eq_true, Bool.not_true, Bool.not_false, List.all_cons, List.all_nil, List.length_cons, List.length_nil, Nat.zero_add, Nat.reduceAdd, List.getElem?_cons_zero, List.getElem?_cons_succ, List.set_cons_zero, List.set_cons_succ, fCall, decide_true, decide_false, (seqD_hold hX).1, (seqD_hold hY).1, fzip_ hX hY]) (lc_map (fun q : Int × Int => pairD (.int q.1) (.int q.2)) (fun q => .int (q.1 * q.2)) (xs.zip ys) (tt := dYes) (tg := Dv.tTup 2 (tsCons (tName 3) (tsCons (tName 4) tsNil))) (el := dBin fMul (dVar 3) (dVar 4)) (μ := μ) (fun q hq => by
        have hy := hf _ (List.of_mem_zip hq).2
        refine ⟨[.v X, .v Y, .v (.int p), .v (.int q.1), .v (.int q.2)], rfl, rfl, ?_, rfl⟩
        simp (decide := true) only [dSeq, dIfS, dRet, dSkip, dAsg, tName, unbor, bindS, dTest, fTest, dBin, dC, dVar, dNotT, dAndT, dOrT, dAndV, dOrV, dIf, bindR, Dv.ret, hold_new, hold_int, hold_bl, hold_tup, hold_lst, hold_obj, hold_str, hold_non, hold_ty, hold_bor, dCall, dCons, dNil, dIter, fIter, dArg, nobor_new, nobor_int, nobor_bl, nobor_tup, nobor_lst, nobor_obj, nobor_str, nobor_non, nobor_ty, Bool.and_self, and_self, if_true, if_false, Bool.false_eq_true, Bool.not_true, Bool.not_false, List.all_cons, List.all_nil, List.length_cons, List.length_nil, Nat.zero_add, Nat.reduceAdd, List.getElem?_cons_zero, List.getElem?_cons_succ, List.set_cons_zero, List.set_cons_succ, fCall, decide_true, decide_false, fmul_int _ q.2 _ (by omega)]))
  have e : (xs.zip ys).map (fun q => hold (.int (q.1 * q.2))) = intsD ((xs.zip ys).map fun q => q.1 * q.2) := by simp only [intsD, List.map_map, Function.comp_def, hold]
  rw [e] at hc
  simp (decide := true) only [bValue, hc, dSeq, dIfS, dRet, dSkip, dAsg, tName, unbor, bindS, dTest, fTest, dBin, dC, dVar, dNotT, dAndT, dOrT, dAndV, dOrV, dIf, bindR, Dv.ret, hold_new, hold_int, hold_bl, hold_tup, hold_lst, hold_obj, hold_str, hold_non, hold_ty, hold_bor, dCall, dCons, dNil, dIter, fIter, dArg, nobor_new, nobor_int, nobor_bl, nobor_tup, nobor_lst, nobor_obj, nobor_str, nobor_non, nobor_ty, Bool.and_self, and_self, if_true, if_false, Bool.false_eq_true, Bool.not_true, Bool.not_false, List.all_cons, List.all_nil, List.length_cons, List.length_nil, Nat.zero_add, Nat.reduceAdd, List.getElem?_cons_zero, List.getElem?_cons_succ, List.set_cons_zero, List.set_cons_succ, fCall, decide_true, decide_false, fSum, seqL, asInts_intsD, fmod_int _ _ _ hp]
end Dv

/-! DvT: the leading place, inverses, scaled rows. -/
namespace Dv
open PySem PySem.Spec PyProof.Rows L2
/-- the first place that isn't 0 -/
def leadN : List Int → Nat
  | [] => 0
  | x :: l => if x = 0 then leadN l + 1 else 0
theorem leadN_le : ∀ l : List Int, leadN l ≤ l.length
  | [] => Nat.le_refl _
  | x :: l => by
    unfold leadN
    have := leadN_le l
    split
    · simp; omega
    · simp
theorem leadN_ne : ∀ {l : List Int}, leadN l < l.length → ∃ x, l[leadN l]? = some x ∧ x ≠ 0
  | [], h => by simp [leadN] at h
  | x :: l, h => by
    unfold leadN at h ⊢
    split
    · rename_i h0
      rw [if_pos h0] at h
      obtain ⟨y, e, n⟩ := leadN_ne (l := l) (by simp at h; omega)
      exact ⟨y, by simpa using e, n⟩
    · rename_i h0
      exact ⟨x, rfl, h0⟩
theorem leadN_zero : ∀ {l : List Int}, leadN l = l.length → ∀ x ∈ l, x = 0
  | [], _, x, h => absurd h List.not_mem_nil
  | y :: l, h, x, hx => by
    unfold leadN at h
    split at h
    · rename_i h0
      simp at h
      rcases List.mem_cons.mp hx with rfl | hx
      · exact h0
      · exact leadN_zero (l := l) h x hx
    · simp at h
/-- what keeps 0 and no more keeps the place -/
theorem leadN_map (f : Int → Int) : ∀ (l : List Int), (∀ x ∈ l, f x = 0 ↔ x = 0) → leadN (l.map f) = leadN l
  | [], _ => rfl
  | x :: l, h => by
    have e := h x List.mem_cons_self
    have ih := leadN_map f l fun y hy => h y (List.mem_cons_of_mem _ hy)
    simp only [List.map_cons]
    unfold leadN
    by_cases h0 : x = 0
    · rw [if_pos (e.mpr h0), if_pos h0, ih]
    · rw [if_neg (fun z => h0 (e.mp z)), if_neg h0]
theorem leadN_cons (x : Int) (l : List Int) : leadN (x :: l) = if x = 0 then leadN l + 1 else 0 := rfl
theorem lead_for {X : D} {μ : Mu} : ∀ (l : List Int) (k : Nat) (a b : SV), ∃ a' b', forRun (Dv.tTup 2 (tsCons (tName 1) (tsCons (tName 2) tsNil))) (dIfS (dTest (dBin fNe (dVar 2) (dC (.int 0)))) (dRet (dVar 1)) dSkip) (enumD k (intsD l)) [.v X, a, b] μ =
    (if leadN l < l.length then some (.val (.ret (.int (k + leadN l : Nat))), [.v X, a', b'], μ) else some (.val .nx, [.v X, a', b'], μ))
  | [], k, a, b => ⟨a, b, by simp [leadN, enumD, forRun]⟩
  | x :: l, k, a, b => by
    show ∃ a' b', forRun _ _ (pairD (.int k) (.int x) :: enumD (k + 1) (intsD l)) _ μ = _
    have e1 : Dv.tTup 2 (tsCons (tName 1) (tsCons (tName 2) tsNil)) [.v X, a, b] (pairD (.int k) (.int x)) = some [.v X, .v (.int k), .v (.int x)] := rfl
    by_cases h0 : x = 0
    · obtain ⟨a', b', e⟩ := lead_for l (k + 1) (.v (.int k)) (.v (.int x))
      refine ⟨a', b', ?_⟩
      unfold forRun
      rw [e1]
      have e2 : dIfS (dTest (dBin fNe (dVar 2) (dC (.int 0)))) (dRet (dVar 1)) dSkip [.v X, .v (.int k), .v (.int x)] μ = some (.val .nx, [.v X, .v (.int k), .v (.int x)], μ) := by
        simp (decide := true) only [dSeq, dIfS, dRet, dSkip, dAsg, tName, unbor, bindS, dTest, fTest, dBin, dC, dVar, dNotT, dAndT, dOrT, dAndV, dOrV, dIf, bindR, Dv.ret, hold_new, hold_int, hold_bl, hold_tup, hold_lst, hold_obj, hold_str, hold_non, hold_ty, hold_bor, dCall, dCons, dNil, dIter, fIter, dArg, nobor_new, nobor_int, nobor_bl, nobor_tup, nobor_lst, nobor_obj, nobor_str, nobor_non, nobor_ty, Bool.and_self, and_self, if_true, if_false, Bool.false_eq_true, Bool.not_true, Bool.not_false, List.all_cons, List.all_nil, List.length_cons, List.length_nil, Nat.zero_add, Nat.reduceAdd, List.getElem?_cons_zero, List.getElem?_cons_succ, List.set_cons_zero, List.set_cons_succ, fCall, decide_true, decide_false, fne_int, h0]
      simp only [e2]
      rw [e]
      rw [leadN_cons, if_pos h0]
      have e3 : k + 1 + leadN l = k + (leadN l + 1) := by omega
      rw [e3]
      by_cases hl : leadN l < l.length
      · rw [if_pos hl, if_pos (by simp; omega)]
      · rw [if_neg hl, if_neg (by simp; omega)]
    · refine ⟨.v (.int k), .v (.int x), ?_⟩
      unfold forRun
      rw [e1]
      have e2 : dIfS (dTest (dBin fNe (dVar 2) (dC (.int 0)))) (dRet (dVar 1)) dSkip [.v X, .v (.int k), .v (.int x)] μ = some (.val (.ret (.int k)), [.v X, .v (.int k), .v (.int x)], μ) := by
        simp (decide := true) only [dSeq, dIfS, dRet, dSkip, dAsg, tName, unbor, bindS, dTest, fTest, dBin, dC, dVar, dNotT, dAndT, dOrT, dAndV, dOrV, dIf, bindR, Dv.ret, hold_new, hold_int, hold_bl, hold_tup, hold_lst, hold_obj, hold_str, hold_non, hold_ty, hold_bor, dCall, dCons, dNil, dIter, fIter, dArg, nobor_new, nobor_int, nobor_bl, nobor_tup, nobor_lst, nobor_obj, nobor_str, nobor_non, nobor_ty, Bool.and_self, and_self, if_true, if_false, Bool.false_eq_true, Bool.not_true, Bool.not_false, List.all_cons, List.all_nil, List.length_cons, List.length_nil, Nat.zero_add, Nat.reduceAdd, List.getElem?_cons_zero, List.getElem?_cons_succ, List.set_cons_zero, List.set_cons_succ, fCall, decide_true, decide_false, fne_int, h0]
      simp only [e2]
      rw [leadN_cons, if_neg h0, if_pos (by simp)]
      rfl
theorem fenum_ {X : D} {xs : List Int} {μ : Mu} (hX : seqD X = some (intsD xs)) : fEnum [X] μ = some (.val (enumD 0 (intsD xs)), μ) := by
  simp only [fEnum, hX, Dv.ret]
theorem flen_ {X : D} {l : List D} {μ : Mu} (hX : seqD X = some l) : fLen [X] μ = some (.val (.int l.length), μ) := by
  cases X <;> first | cases hX; rfl | cases hX
theorem leading_ok {X : D} {xs : List Int} {μ : Mu} (hX : seqD X = some (intsD xs)) : mLeadingPlace [X] μ = some (.val (.int (leadN xs)), μ) := by
  obtain ⟨a, b, e⟩ := lead_for (X := X) (μ := μ) xs 0 .no .no
  have hi : dArg fEnum (dCons (dVar 0) dNil) [.v X, .no, .no] μ = some (.val (enumD 0 (intsD xs)), μ) := by
    simp only [dSeq, dIfS, dRet, dSkip, dAsg, tName, unbor, bindS, dTest, fTest, dBin, dC, dVar, dNotT, dAndT, dOrT, dAndV, dOrV, dIf, bindR, Dv.ret, hold_new, hold_int, hold_bl, hold_tup, hold_lst, hold_obj, hold_str, hold_non, hold_ty, hold_bor, dCall, dCons, dNil, dIter, fIter, dArg, nobor_new, nobor_int, nobor_bl, nobor_tup, nobor_lst, nobor_obj, nobor_str, nobor_non, nobor_ty, Bool.and_self, and_self, if_true, if_false, Bool.false_eq_true, Bool.not_true, Bool.not_false, List.all_cons, List.all_nil, List.length_cons, List.length_nil, Nat.zero_add, Nat.reduceAdd, List.getElem?_cons_zero, List.getElem?_cons_succ, List.set_cons_zero, List.set_cons_succ, fCall, decide_true, decide_false, (seqD_hold hX).1, fenum_ hX]
  have hf := for_of (tg := Dv.tTup 2 (tsCons (tName 1) (tsCons (tName 2) tsNil))) (b := dIfS (dTest (dBin fNe (dVar 2) (dC (.int 0)))) (dRet (dVar 1)) dSkip) hi e
  by_cases h : leadN xs < xs.length
  · rw [if_pos h, Nat.zero_add] at hf
    exact def_ret (env := [.v X, a, b]) (seq_ret hf) rfl
  · rw [if_neg h] at hf
    have hl : leadN xs = xs.length := by have := leadN_le xs; omega
    refine def_ret (env := [.v X, a, b]) (seq_nx hf ?_) rfl
    simp only [dSeq, dIfS, dRet, dSkip, dAsg, tName, unbor, bindS, dTest, fTest, dBin, dC, dVar, dNotT, dAndT, dOrT, dAndV, dOrV, dIf, bindR, Dv.ret, hold_new, hold_int, hold_bl, hold_tup, hold_lst, hold_obj, hold_str, hold_non, hold_ty, hold_bor, dCall, dCons, dNil, dIter, fIter, dArg, nobor_new, nobor_int, nobor_bl, nobor_tup, nobor_lst, nobor_obj, nobor_str, nobor_non, nobor_ty, Bool.and_self, and_self, if_true, if_false, Bool.false_eq_true, Bool.not_true, Bool.not_false, List.all_cons, List.all_nil, List.length_cons, List.length_nil, Nat.zero_add, Nat.reduceAdd, List.getElem?_cons_zero, List.getElem?_cons_succ, List.set_cons_zero, List.set_cons_succ, fCall, decide_true, decide_false, (seqD_hold hX).1, flen_ hX, List.length_map, hl]
/-! ### inverses -/
structure Prm (p : Int) : Prop where
  is : p = 2 ∨ p = 3 ∨ p = 5 ∨ p = 7
theorem inverse_ok {p a : Int} {μ : Mu} (hp : Prm p) (h0 : 0 < a) (h1 : a < p) : ∃ b, mInverse [.int a, .int p] μ = some (.val (.int b), μ) ∧ 0 < b ∧ b < p ∧ a * b % p = 1 ∧ (a = 1 → b = 1) := by
  rcases hp.is with rfl | rfl | rfl | rfl
  · have : a = 1 := by omega
    subst this; exact ⟨1, rfl, by decide, by decide, by decide, by decide⟩
  · have : a = 1 ∨ a = 2 := by omega
    rcases this with rfl | rfl
    · exact ⟨1, rfl, by decide, by decide, by decide, by decide⟩
    · exact ⟨2, rfl, by decide, by decide, by decide, by decide⟩
  · have : a = 1 ∨ a = 2 ∨ a = 3 ∨ a = 4 := by omega
    rcases this with rfl | rfl | rfl | rfl
    · exact ⟨1, rfl, by decide, by decide, by decide, by decide⟩
    · exact ⟨3, rfl, by decide, by decide, by decide, by decide⟩
    · exact ⟨2, rfl, by decide, by decide, by decide, by decide⟩
    · exact ⟨4, rfl, by decide, by decide, by decide, by decide⟩
  · have : a = 1 ∨ a = 2 ∨ a = 3 ∨ a = 4 ∨ a = 5 ∨ a = 6 := by omega
    rcases this with rfl | rfl | rfl | rfl | rfl | rfl
    · exact ⟨1, rfl, by decide, by decide, by decide, by decide⟩
    · exact ⟨4, rfl, by decide, by decide, by decide, by decide⟩
    · exact ⟨5, rfl, by decide, by decide, by decide, by decide⟩
    · exact ⟨2, rfl, by decide, by decide, by decide, by decide⟩
    · exact ⟨3, rfl, by decide, by decide, by decide, by decide⟩
    · exact ⟨6, rfl, by decide, by decide, by decide, by decide⟩
/-! ### scaled -/
theorem fixS_seq {X : D} {l : List D} {i : Int} {d : D} {μ : Mu} (hX : seqD X = some l) (h : atI l i = some d) : fIxS X (.int i) μ = some (.val d, μ) := by
  cases X <;> first | cases hX; simp only [fIxS, fIx, h, Dv.ret] | cases hX
theorem fTuple_ {X : D} {l : List D} {μ : Mu} (hX : seqD X = some l) : fTuple [X] μ = some (.val (.tup l), μ) := by
  cases X <;> first | cases hX; rfl | cases hX
theorem atI_intsD {l : List Int} {k : Nat} {x : Int} (h : l[k]? = some x) : atI (intsD l) (k : Int) = some (.int x) := by
  have hk := (List.getElem?_eq_some_iff.mp h).1
  rw [atI_of (Int.natCast_nonneg _) (by simpa using hk)]
  simp [h]
theorem scaled0 {X : D} {xs : List Int} {p : Int} {μ : Mu} (hX : seqD X = some (intsD xs)) (h : leadN xs = xs.length) : mScaled [X, .int p] μ = some (.val (tupI xs), μ) := by
  refine def_ret (env := [.v X, .v (.int p), .v (.int (leadN xs))]) ?_ rfl
  show bScaled [.v X, .v (.int p), .no] μ = _
  simp (decide := true) only [bScaled, dSeq, dIfS, dRet, dSkip, dAsg, tName, unbor, bindS, dTest, fTest, dBin, dC, dVar, dNotT, dAndT, dOrT, dAndV, dOrV, dIf, bindR, Dv.ret, hold_new, hold_int, hold_bl, hold_tup, hold_lst, hold_obj, hold_str, hold_non, hold_ty, hold_bor, dCall, dCons, dNil, dIter, fIter, dArg, nobor_new, nobor_int, nobor_bl, nobor_tup, nobor_lst, nobor_obj, nobor_str, nobor_non, nobor_ty, Bool.and_self, and_self, if_true, if_false, Bool.false_eq_true, Bool.not_true, Bool.not_false, List.all_cons, List.all_nil, List.length_cons, List.length_nil, Nat.zero_add, Nat.reduceAdd, List.getElem?_cons_zero, List.getElem?_cons_succ, List.set_cons_zero, List.set_cons_succ, fCall, decide_true, decide_false, (seqD_hold hX).1, (seqD_hold hX).2.1, leading_ok hX, flen_ hX, List.length_map, feq_int, h, fTuple_ hX]
theorem scaled1 {X : D} {xs : List Int} {p x b : Int} {μ : Mu} (hX : seqD X = some (intsD xs)) (hp : 0 < p) (h : leadN xs < xs.length) (hx : xs[leadN xs]? = some x) (hb : mInverse [.int x, .int p] μ = some (.val (.int b), μ)) (b0 : 0 < b) (b1 : b < 1000000) :
    mScaled [X, .int p] μ = some (.val (tupI (xs.map fun y => y * b % p)), μ) := by
  refine def_ret (env := [.v X, .v (.int p), .v (.int (leadN xs))]) ?_ rfl
  show bScaled [.v X, .v (.int p), .no] μ = _
  have hne : ¬ ((leadN xs : Int) = (xs.length : Int)) := by omega
  simp (decide := true) only [bScaled, dSeq, dIfS, dRet, dSkip, dAsg, tName, unbor, bindS, dTest, fTest, dBin, dC, dVar, dNotT, dAndT, dOrT, dAndV, dOrV, dIf, bindR, Dv.ret, hold_new, hold_int, hold_bl, hold_tup, hold_lst, hold_obj, hold_str, hold_non, hold_ty, hold_bor, dCall, dCons, dNil, dIter, fIter, dArg, nobor_new, nobor_int, nobor_bl, nobor_tup, nobor_lst, nobor_obj, nobor_str, nobor_non, nobor_ty, Bool.and_self, and_self, if_true, if_false, Bool.false_eq_true, Bool.not_true, Bool.not_false, List.all_cons, List.all_nil, List.length_cons, List.length_nil, Nat.zero_add, Nat.reduceAdd, List.getElem?_cons_zero, List.getElem?_cons_succ, List.set_cons_zero, List.set_cons_succ, fCall, decide_true, decide_false, (seqD_hold hX).1, (seqD_hold hX).2.1, leading_ok hX, flen_ hX, List.length_map, feq_int, hne, fixS_seq hX (atI_intsD hx), hb, multiplied_ok hX hp (Int.le_of_lt b0) b1]
/-! ### the law's own leading place -/
theorem lead_filter : ∀ xs : List Int, ((List.range xs.length).filter fun i => !decide ((xs[i]?.getD 0) = 0)).head? = if leadN xs < xs.length then some (leadN xs) else none
  | [] => rfl
  | x :: l => by
    rw [List.length_cons, List.range_succ_eq_map, List.filter_cons]
    rw [leadN_cons]
    by_cases h0 : x = 0
    · have ih := lead_filter l
      rw [if_neg (by simp [h0]), if_pos h0, List.filter_map, List.head?_map]
      have e : ((fun i => !decide (((x :: l)[i]?.getD 0) = 0)) ∘ Nat.succ) = fun i => !decide ((l[i]?.getD 0) = 0) := by
        funext i; simp
      rw [e, ih]
      by_cases hl : leadN l < l.length
      · rw [if_pos hl, if_pos (by omega)]; rfl
      · rw [if_neg hl, if_neg (by omega)]; rfl
    · rw [if_pos (by simp [h0]), if_neg h0]; simp
theorem lead_ok {X : D} {xs : List Int} {μ : Mu} (hX : seqD X = some (intsD xs)) (hz : xs.length ≤ 1000) : mLead [X] μ = some (.val (.int (if leadN xs < xs.length then (leadN xs : Int) else -1)), μ) := by
  have hr : rangeD 0 (xs.length : Int) = (List.range xs.length).map fun (i : Nat) => D.int i := by
    unfold rangeD
    have : ((xs.length : Int) - 0).toNat = xs.length := by omega
    rw [this]
    congr 1
    funext i
    rw [Int.zero_add]
  have hc := dLc_of (it := dArg fRange1 (dCons (dCall fLen (dCons (dVar 0) dNil)) dNil)) (own := [2]) (env := [.v X, .no, .no]) (μ := μ) rfl (by
      simp (decide := true) only [dSeq, dIfS, dRet, dSkip, dAsg, tName, unbor, bindS, dTest, fTest, dBin, dC, dVar, dNotT, dAndT, dOrT, dAndV, dOrV, dIf, bindR, Dv.ret, hold_new, hold_int, hold_bl, hold_tup, hold_lst, hold_obj, hold_str, hold_non, hold_ty, hold_bor, dCall, dCons, dNil, dIter, fIter, dArg, nobor_new, nobor_int, nobor_bl, nobor_tup, nobor_lst, nobor_obj, nobor_str, nobor_non, nobor_ty, Bool.and_self, and_self, if_true, if_false, Bool.false_eq_true, Bool.not_true, Bool.not_false, List.all_cons, List.all_nil, List.length_cons, List.length_nil, Nat.zero_add, Nat.reduceAdd, List.getElem?_cons_zero, List.getElem?_cons_succ, List.set_cons_zero, List.set_cons_succ, fCall, decide_true, decide_false, (seqD_hold hX).1, flen_ hX, List.length_map, range1_ _ _ (Int.natCast_nonneg xs.length) (by omega : (xs.length : Int) ≤ 16777216), hr]) (lc_filter (fun (i : Nat) => .int (i : Int)) (fun i => .int (i : Int)) (fun i => !decide ((xs[i]?.getD 0) = 0)) (List.range xs.length) (tt := dTest (dBin fNe (dBin fIxS (dVar 0) (dVar 2)) (dC (.int 0)))) (tg := tName 2) (el := dVar 2) (μ := μ) (fun i hi => by
        have hlt := List.mem_range.mp hi
        have hx : xs[i]? = some xs[i] := by simp [hlt]
        refine ⟨[.v X, .no, .v (.int i)], rfl, ?_, ?_, rfl⟩
        · simp (decide := true) only [dSeq, dIfS, dRet, dSkip, dAsg, tName, unbor, bindS, dTest, fTest, dBin, dC, dVar, dNotT, dAndT, dOrT, dAndV, dOrV, dIf, bindR, Dv.ret, hold_new, hold_int, hold_bl, hold_tup, hold_lst, hold_obj, hold_str, hold_non, hold_ty, hold_bor, dCall, dCons, dNil, dIter, fIter, dArg, nobor_new, nobor_int, nobor_bl, nobor_tup, nobor_lst, nobor_obj, nobor_str, nobor_non, nobor_ty, Bool.and_self, and_self, if_true, if_false, Bool.false_eq_true, Bool.not_true, Bool.not_false, List.all_cons, List.all_nil, List.length_cons, List.length_nil, Nat.zero_add, Nat.reduceAdd, List.getElem?_cons_zero, List.getElem?_cons_succ, List.set_cons_zero, List.set_cons_succ, fCall, decide_true, decide_false, (seqD_hold hX).1, fixS_seq hX (atI_intsD hx), fne_int, hx, Option.getD_some]
        · simp (decide := true) only [dSeq, dIfS, dRet, dSkip, dAsg, tName, unbor, bindS, dTest, fTest, dBin, dC, dVar, dNotT, dAndT, dOrT, dAndV, dOrV, dIf, bindR, Dv.ret, hold_new, hold_int, hold_bl, hold_tup, hold_lst, hold_obj, hold_str, hold_non, hold_ty, hold_bor, dCall, dCons, dNil, dIter, fIter, dArg, nobor_new, nobor_int, nobor_bl, nobor_tup, nobor_lst, nobor_obj, nobor_str, nobor_non, nobor_ty, Bool.and_self, and_self, if_true, if_false, Bool.false_eq_true, Bool.not_true, Bool.not_false, List.all_cons, List.all_nil, List.length_cons, List.length_nil, Nat.zero_add, Nat.reduceAdd, List.getElem?_cons_zero, List.getElem?_cons_succ, List.set_cons_zero, List.set_cons_succ, fCall, decide_true, decide_false]))
  have hf := lead_filter xs
  refine def_ret (env := [.v X, .v (.lst (((List.range xs.length).filter fun i => !decide ((xs[i]?.getD 0) = 0)).map fun (i : Nat) => .int (i : Int))), .no]) ?_ rfl
  show bLead [.v X, .no, .no] μ = _
  have e : (((List.range xs.length).filter fun i => !decide ((xs[i]?.getD 0) = 0)).map fun (i : Nat) => hold (.int (i : Int))) = (((List.range xs.length).filter fun i => !decide ((xs[i]?.getD 0) = 0)).map fun (i : Nat) => D.int (i : Int)) := rfl
  rw [e] at hc
  generalize (List.range xs.length).filter (fun i => !decide ((xs[i]?.getD 0) = 0)) = ps at hc hf
  cases ps with
  | nil =>
    have hn : ¬ leadN xs < xs.length := fun h => by rw [if_pos h] at hf; cases hf
    rw [if_neg hn]
    have en : fNe (.lst []) (.lst []) μ = some (.val (.bl false), μ) := rfl
    simp (decide := true) only [bLead, hc, dSeq, dIfS, dRet, dSkip, dAsg, tName, unbor, bindS, dTest, fTest, dBin, dC, dVar, dNotT, dAndT, dOrT, dAndV, dOrV, dIf, bindR, Dv.ret, hold_new, hold_int, hold_bl, hold_tup, hold_lst, hold_obj, hold_str, hold_non, hold_ty, hold_bor, dCall, dCons, dNil, dIter, fIter, dArg, nobor_new, nobor_int, nobor_bl, nobor_tup, nobor_lst, nobor_obj, nobor_str, nobor_non, nobor_ty, Bool.and_self, and_self, if_true, if_false, Bool.false_eq_true, Bool.not_true, Bool.not_false, List.all_cons, List.all_nil, List.length_cons, List.length_nil, Nat.zero_add, Nat.reduceAdd, List.getElem?_cons_zero, List.getElem?_cons_succ, List.set_cons_zero, List.set_cons_succ, fCall, decide_true, decide_false, dLst, fLst, List.map_nil, en, fSub]
    rfl
  | cons i ps =>
    have hn : leadN xs < xs.length := by
      by_cases h : leadN xs < xs.length
      · exact h
      · rw [if_neg h] at hf; cases hf
    rw [if_pos hn] at hf ⊢
    cases hf
    have en : fNe (.lst (D.int (leadN xs : Int) :: ps.map fun (i : Nat) => D.int (i : Int))) (.lst []) μ = some (.val (.bl true), μ) := by
      have hp : plainD 60 (.lst (D.int (leadN xs : Int) :: ps.map fun (i : Nat) => D.int (i : Int))) = true := by
        unfold plainD
        rw [List.all_cons, plainD_int, Bool.true_and, List.all_eq_true]
        intro d hd
        obtain ⟨i, _, rfl⟩ := List.mem_map.mp hd
        exact plainD_int _ _
      have hp2 : plainD 60 (.lst []) = true := rfl
      simp only [fNe, hp, hp2, Bool.and_self, if_true, Dv.ret]
      rfl
    have ei : fIxS (.lst (D.int (leadN xs : Int) :: ps.map fun (i : Nat) => D.int (i : Int))) (.int 0) μ = some (.val (.int (leadN xs : Int)), μ) := by
      refine fixS_seq rfl ?_
      rw [atI_of (by decide) (by simp)]; rfl
    simp (decide := true) only [bLead, hc, dSeq, dIfS, dRet, dSkip, dAsg, tName, unbor, bindS, dTest, fTest, dBin, dC, dVar, dNotT, dAndT, dOrT, dAndV, dOrV, dIf, bindR, Dv.ret, hold_new, hold_int, hold_bl, hold_tup, hold_lst, hold_obj, hold_str, hold_non, hold_ty, hold_bor, dCall, dCons, dNil, dIter, fIter, dArg, nobor_new, nobor_int, nobor_bl, nobor_tup, nobor_lst, nobor_obj, nobor_str, nobor_non, nobor_ty, Bool.and_self, and_self, if_true, if_false, Bool.false_eq_true, Bool.not_true, Bool.not_false, List.all_cons, List.all_nil, List.length_cons, List.length_nil, Nat.zero_add, Nat.reduceAdd, List.getElem?_cons_zero, List.getElem?_cons_succ, List.set_cons_zero, List.set_cons_succ, fCall, decide_true, decide_false, dLst, fLst, List.map_cons, en, ei]
end Dv

/-! DvU: equality of data, the source, more. -/
namespace Dv
open PySem PySem.Spec PyProof.Rows L2
theorem deq_refl : ∀ (n : Nat) (d : D), lkD n d = true → deq d d = true := by
  intro n
  induction n with
  | zero => ?_
  | succ n ih => ?_
  all_goals intro d hd
  all_goals cases d
  all_goals try (simp [lkD] at hd; done)
  all_goals try (simp [deq, toPy, PyData.eqv]; done)
  all_goals
    rename_i l
    have hl : ∀ d ∈ l, lkD n d = true := List.all_eq_true.mp (by simpa [lkD] using hd)
    have q : ∀ m : List D, (∀ d ∈ m, lkD n d = true) → PyData.eqvAll (toPys m) (toPys m) = true := by
      intro m
      induction m with
      | nil => intro _; rfl
      | cons d m ih2 =>
        intro h
        unfold toPys PyData.eqvAll
        have e1 : PyData.eqv (toPy d) (toPy d) = true := ih d (h d List.mem_cons_self)
        rw [e1, ih2 fun x hx => h x (List.mem_cons_of_mem _ hx)]; rfl
    simp only [deq, toPy, PyData.eqv]
    exact q l hl
theorem lk_int (n : Nat) (i : Int) : lkD n (.int i) = true := by cases n <;> rfl
theorem lk_intsD (n : Nat) (l : List Int) : (intsD l).all (lkD n) = true := by
  rw [List.all_eq_true]; intro d hd
  obtain ⟨i, _, rfl⟩ := List.mem_map.mp hd
  exact lk_int n i
theorem lk_tupI (n : Nat) (l : List Int) : lkD (n + 1) (tupI l) = true := lk_intsD n l
theorem lk_lstI (n : Nat) (l : List Int) : lkD (n + 1) (lstI l) = true := lk_intsD n l
theorem lk_plain : ∀ {n : Nat} {d : D}, lkD n d = true → plainD n d = true := by
  intro n
  induction n with
  | zero => ?_
  | succ n ih => ?_
  all_goals intro d hd
  all_goals cases d
  all_goals try (simp [lkD] at hd; done)
  all_goals try rfl
  all_goals try (simpa [lkD, plainD] using hd)
  all_goals
    rename_i l
    have hl : ∀ d ∈ l, lkD n d = true := List.all_eq_true.mp (by simpa [lkD] using hd)
    unfold plainD
    exact List.all_eq_true.mpr fun d h => ih (hl d h)
theorem lk_up : ∀ {n : Nat} {d : D}, lkD n d = true → lkD (n + 1) d = true := by
  intro n
  induction n with
  | zero => ?_
  | succ n ih => ?_
  all_goals intro d hd
  all_goals cases d
  all_goals try (simp [lkD] at hd; done)
  all_goals try rfl
  all_goals try (simp [lkD] at hd ⊢; exact hd)
  all_goals
    rename_i l
    have hl : ∀ d ∈ l, lkD n d = true := List.all_eq_true.mp (by simpa [lkD] using hd)
    unfold lkD
    exact List.all_eq_true.mpr fun d h => ih (hl d h)
theorem lk_le {n m : Nat} {d : D} (h : lkD n d = true) (hm : n ≤ m) : lkD m d = true := by
  induction hm with
  | refl => exact h
  | step _ ih => exact lk_up ih
theorem feq_self {d : D} (n : Nat) (h : lkD n d = true) (hn : n ≤ 60) (μ : Mu) : fEq d d μ = some (.val (.bl true), μ) := by
  have hp := lk_plain (lk_le h hn)
  simp only [fEq, hp, Bool.and_self, if_true, deq_refl n d h, Dv.ret]
theorem fne_self {d : D} (n : Nat) (h : lkD n d = true) (hn : n ≤ 60) (μ : Mu) : fNe d d μ = some (.val (.bl false), μ) := by
  have hp := lk_plain (lk_le h hn)
  simp only [fNe, hp, Bool.and_self, if_true, deq_refl n d h, Dv.ret, Bool.not_true]
theorem eqvAll_ints : ∀ a b : List Int, PyData.eqvAll (toPys (intsD a)) (toPys (intsD b)) = decide (a = b)
  | [], [] => rfl
  | [], _ :: _ => rfl
  | _ :: _, [] => rfl
  | x :: a, y :: b => by
    show PyData.eqvAll (toPy (.int x) :: toPys (intsD a)) (toPy (.int y) :: toPys (intsD b)) = _
    unfold PyData.eqvAll
    rw [eqvAll_ints a b]
    have : PyData.eqv (toPy (.int x)) (toPy (.int y)) = decide (x = y) := deq_int x y
    rw [this]
    by_cases h1 : x = y <;> by_cases h2 : a = b <;> simp [h1, h2]
theorem feq_tup (a b : List Int) (μ : Mu) : fEq (tupI a) (tupI b) μ = some (.val (.bl (decide (a = b))), μ) := by
  have h1 : plainD 60 (tupI a) = true := lk_plain (lk_le (lk_tupI 0 a) (by decide))
  have h2 : plainD 60 (tupI b) = true := lk_plain (lk_le (lk_tupI 0 b) (by decide))
  have e : deq (tupI a) (tupI b) = decide (a = b) := by
    simp only [deq, tupI, toPy, PyData.eqv]; exact eqvAll_ints a b
  simp only [fEq, h1, h2, Bool.and_self, if_true, e, Dv.ret]
theorem fne_tup (a b : List Int) (μ : Mu) : fNe (tupI a) (tupI b) μ = some (.val (.bl (!decide (a = b))), μ) := by
  have h1 : plainD 60 (tupI a) = true := lk_plain (lk_le (lk_tupI 0 a) (by decide))
  have h2 : plainD 60 (tupI b) = true := lk_plain (lk_le (lk_tupI 0 b) (by decide))
  have e : deq (tupI a) (tupI b) = decide (a = b) := by
    simp only [deq, tupI, toPy, PyData.eqv]; exact eqvAll_ints a b
  simp only [fNe, h1, h2, Bool.and_self, if_true, e, Dv.ret]
/-! ### the drawer's making -/
theorem cut_intsD (l : List Int) (lo hi : Option Int) : cutD (intsD l) lo hi = intsD (cutD l lo hi) := by
  unfold cutD intsD
  rw [List.length_map, List.map_take, List.map_drop]
theorem source_ok (k c : Int) (ns : List Int) (hl : ns.length ≤ 63) :
    ∃ s, adopt (cleanD (defD 1 (dRet (dLst (dCons (dCall fList (dCons (dSl (dVar 0) dNoPart (dPart (dC (.int k)))) dNil)) (dCons (dC (.int 0)) (dCons (dC (.int 0)) (dCons (dC (.int c)) (dCons (dC (.int 0)) dNil))))))))) [.scr (intsD ns)] [] = some (.val (.obj 0), [.src s]) ∧ (0 ≤ c → c < 2147483587 → OkS s) := by
  have hz := cut_len ns none (some k)
  refine ⟨⟨cutD ns none (some k), 0, 0, c, 0⟩, ?_, fun h0 h1 => ⟨Nat.le_trans hz hl, Int.le_refl 0, h0, h1⟩⟩
  have e : cleanD (defD 1 (dRet (dLst (dCons (dCall fList (dCons (dSl (dVar 0) dNoPart (dPart (dC (.int k)))) dNil)) (dCons (dC (.int 0)) (dCons (dC (.int 0)) (dCons (dC (.int c)) (dCons (dC (.int 0)) dNil)))))))) [.scr (intsD ns)] [] = some (.val (.new [.lst (intsD (cutD ns none (some k))), .int 0, .int 0, .int c, .int 0]), []) := by
    refine def_ret (env := [.v (.scr (intsD ns))]) ?_ rfl
    have h : hold (.scr (intsD ns)) = .scr (intsD ns) := rfl
    show dRet _ [.v (.scr (intsD ns))] [] = _
    simp (decide := true) only [dSeq, dIfS, dRet, dSkip, dAsg, tName, unbor, bindS, dTest, fTest, dBin, dC, dVar, dNotT, dAndT, dOrT, dAndV, dOrV, dIf, bindR, Dv.ret, hold_new, hold_int, hold_bl, hold_tup, hold_lst, hold_obj, hold_str, hold_non, hold_ty, hold_bor, dCall, dCons, dNil, dIter, fIter, dArg, nobor_new, nobor_int, nobor_bl, nobor_tup, nobor_lst, nobor_obj, nobor_str, nobor_non, nobor_ty, Bool.and_self, and_self, if_true, if_false, Bool.false_eq_true, Bool.not_true, Bool.not_false, List.all_cons, List.all_nil, List.length_cons, List.length_nil, Nat.zero_add, Nat.reduceAdd, List.getElem?_cons_zero, List.getElem?_cons_succ, List.set_cons_zero, List.set_cons_succ, fCall, decide_true, decide_false, dSl, dNoPart, dPart, fPart, fSl, h, fList, cut_intsD, dLst, fLst]
  unfold adopt
  rw [e]
  simp only [asInts_intsD, List.length_nil, List.nil_append]
/-! ### zeros -/
theorem flat_one (n : Nat) : (List.replicate n [D.int 0]).flatten = intsD (List.replicate n 0) := by
  induction n with
  | zero => rfl
  | succ n ih => rw [List.replicate_succ, List.flatten_cons, ih]; rfl
theorem zeros_ (n : Int) (μ : Mu) (h0 : 1 ≤ n) (h1 : n ≤ 1000) : fMul (.tup [.int 0]) (.int n) μ = some (.val (tupI (List.replicate n.toNat 0)), μ) := by
  have h : 1 ≤ n ∧ n ≤ 1000 ∧ [D.int 0].length ≤ 1000 ∧ [D.int 0] ≠ [] := ⟨h0, h1, by decide, by simp⟩
  simp only [fMul, if_pos h, repL, flat_one, Dv.ret]
theorem zip_zeros (g : Int × Int → Int) : ∀ a : List Int, ((List.replicate a.length 0).zip a).map g = a.map fun x => g (0, x)
  | [] => rfl
  | x :: a => by
    have := zip_zeros g a
    simp [List.replicate_succ, this]
end Dv

namespace Lw_k03
open PySem PySem.Spec PyProof.Rows L2 Dv
def top (i : Nat) : Stmt := PySem.Challenge.pw_mendcalls_k03_sums_multiples_and_values.main.body.getD i (.Pass ⟨0, 0, 0, 0⟩)
abbrev s__law_source : Stmt := top 8
abbrev N__law_source : List Str := ["_law_script"]
abbrev P__law_source : List Str := ["_law_script"]
abbrev s__law_draw : Stmt := top 10
abbrev N__law_draw : List Str := ["_law_src", "_law_many", "_law_cell", "_law_digit", "_law_seed"]
abbrev P__law_draw : List Str := ["_law_src", "_law_many"]
abbrev s__law_of : Stmt := top 11
abbrev N__law_of : List Str := ["_law_src", "_law_things"]
abbrev P__law_of : List Str := ["_law_src", "_law_things"]
abbrev s__law_sizes : Stmt := top 12
abbrev N__law_sizes : List Str := ["_law_src", "_law_found"]
abbrev P__law_sizes : List Str := ["_law_src"]
abbrev s__law_row : Stmt := top 13
abbrev N__law_row : List Str := ["_law_src", "_law_p", "_law_n", "_law_k"]
abbrev P__law_row : List Str := ["_law_src", "_law_p", "_law_n"]
abbrev s_added : Stmt := top 2
abbrev N_added : List Str := ["one", "other", "prime", "a", "b"]
abbrev P_added : List Str := ["one", "other", "prime"]
abbrev s_multiplied : Stmt := top 3
abbrev N_multiplied : List Str := ["row", "factor", "prime", "entry"]
abbrev P_multiplied : List Str := ["row", "factor", "prime"]
abbrev s__law_sum : Stmt := top 14
abbrev N__law_sum : List Str := ["_law_p", "_law_one", "_law_other", "_law_factor", "_law_a", "_law_b"]
abbrev P__law_sum : List Str := ["_law_p", "_law_one", "_law_other", "_law_factor"]
abbrev s__law_like : Stmt := top 9
abbrev N__law_like : List Str := ["_law_found", "_law_due", "_law_one", "_law_other"]
abbrev P__law_like : List Str := ["_law_found", "_law_due"]
abbrev s_leading_place : Stmt := top 4
abbrev N_leading_place : List Str := ["row", "place", "entry"]
abbrev P_leading_place : List Str := ["row"]
abbrev s_inverse : Stmt := top 1
abbrev N_inverse : List Str := ["number", "prime", "other"]
abbrev P_inverse : List Str := ["number", "prime"]
abbrev s_scaled : Stmt := top 5
abbrev N_scaled : List Str := ["row", "prime", "place"]
abbrev P_scaled : List Str := ["row", "prime"]
abbrev s__law_lead : Stmt := top 15
abbrev N__law_lead : List Str := ["_law_row_here", "_law_places", "_law_at"]
abbrev P__law_lead : List Str := ["_law_row_here"]
abbrev s_value : Stmt := top 6
abbrev N_value : List Str := ["row", "worths", "prime", "entry", "worth"]
abbrev P_value : List Str := ["row", "worths", "prime"]
abbrev s_law : Stmt := top 16
abbrev N_law : List Str := ["_law_script", "_law_src", "_law_turn", "_law_p", "_law_n", "_law_one", "_law_other", "_law_factor", "_law_held", "_law_found", "_law_due", "_law_total", "_law_late", "_law_lead_here", "_law_number", "_law_back", "_law_a", "_law_b"]
abbrev P_law : List Str := ["_law_script"]
/-! ### meanings -/
def b__law_source : DSt := (dRet (dLst (dCons (dCall fList (dCons (dSl (dVar 0) dNoPart (dPart (dC (.int 63)))) dNil)) (dCons (dC (.int 0)) (dCons (dC (.int 0)) (dCons (dC (.int 10014)) (dCons (dC (.int 0)) dNil)))))))
def m__law_source : Fn := adopt (cleanD (defD 1 b__law_source))
abbrev b__law_draw : DSt := bDraw
abbrev m__law_draw : Fn := mDraw
abbrev b__law_of : DSt := bOf
abbrev m__law_of : Fn := mOf
def b__law_sizes : DSt := (dSeq (dAsg (dLst (dCons (dTup (dCons (dC (.int 2)) (dCons (dC (.int 1)) dNil))) (dCons (dTup (dCons (dC (.int 2)) (dCons (dC (.int 2)) dNil))) (dCons (dTup (dCons (dC (.int 2)) (dCons (dC (.int 3)) dNil))) (dCons (dTup (dCons (dC (.int 2)) (dCons (dC (.int 3)) dNil))) (dCons (dTup (dCons (dC (.int 2)) (dCons (dC (.int 4)) dNil))) (dCons (dTup (dCons (dC (.int 2)) (dCons (dC (.int 6)) dNil))) (dCons (dTup (dCons (dC (.int 3)) (dCons (dC (.int 1)) dNil))) (dCons (dTup (dCons (dC (.int 3)) (dCons (dC (.int 2)) dNil))) (dCons (dTup (dCons (dC (.int 3)) (dCons (dC (.int 3)) dNil))) (dCons (dTup (dCons (dC (.int 5)) (dCons (dC (.int 2)) dNil))) (dCons (dTup (dCons (dC (.int 7)) (dCons (dC (.int 1)) dNil))) (dCons (dTup (dCons (dC (.int 7)) (dCons (dC (.int 2)) dNil))) dNil))))))))))))) (tName 1))
  (dRet (dCall (fCall 2 mOf) (dCons (dVar 0) (dCons (dVar 1) dNil)))))
def m__law_sizes : Fn := cleanD (defD 2 b__law_sizes)
abbrev b__law_row : DSt := bRow
abbrev m__law_row : Fn := mRow
abbrev b_added : DSt := bAdded
abbrev m_added : Fn := mAdded
abbrev b_multiplied : DSt := bMultiplied
abbrev m_multiplied : Fn := mMultiplied
abbrev b__law_sum : DSt := bSum
abbrev m__law_sum : Fn := mSum
abbrev m__law_like : Nat → Fn := mLike
abbrev b_leading_place : DSt := bLeadingPlace
abbrev m_leading_place : Fn := mLeadingPlace
abbrev b_inverse : DSt := bInverse
abbrev m_inverse : Fn := mInverse
abbrev b_scaled : DSt := bScaled
abbrev m_scaled : Fn := mScaled
abbrev b__law_lead : DSt := bLead
abbrev m__law_lead : Fn := mLead
abbrev b_value : DSt := bValue
abbrev m_value : Fn := mValue
def b_law : DSt := (dSeq (dAsg (dCall (fCall 1 m__law_source) (dCons (dVar 0) dNil)) (tName 1))
  (dSeq (dFor (dArg fRange1 (dCons (dC (.int 6)) dNil)) (tName 2) (dSeq (dAsg (dCall (fCall 1 m__law_sizes) (dCons (dVar 1) dNil)) (Dv.tTup 2 (tsCons (tName 3) (tsCons (tName 4) tsNil))))
  (dSeq (dPar3 5 6 7 (dCons (dCall (fCall 3 mRow) (dCons (dVar 1) (dCons (dVar 3) (dCons (dVar 4) dNil)))) (dCons (dCall (fCall 3 mRow) (dCons (dVar 1) (dCons (dVar 3) (dCons (dVar 4) dNil)))) (dCons (dCall (fCall 2 mDraw) (dCons (dVar 1) (dCons (dVar 3) dNil))) dNil))))
  (dSeq (dAsg (dCall fList (dCons (dVar 5) dNil)) (tName 8))
  (dSeq (dAsg (dLst (dCons (dCall (fCall 3 mAdded) (dCons (dVar 8) (dCons (dVar 6) (dCons (dVar 3) dNil)))) (dCons (dCall (fCall 3 mMultiplied) (dCons (dVar 8) (dCons (dVar 7) (dCons (dVar 3) dNil)))) (dCons (dCallK (fCall 3 mAdded) 2 1 (dCons (dVar 8) (dCons (dCall fList (dCons (dVar 6) dNil)) dNil)) (dCons (dVar 3) dNil)) dNil)))) (tName 9))
  (dSeq (dAsg (dLst (dCons (dCall (fCall 4 mSum) (dCons (dVar 3) (dCons (dVar 5) (dCons (dVar 6) (dCons (dC (.int 1)) dNil))))) (dCons (dCall (fCall 4 mSum) (dCons (dVar 3) (dCons (dBin fMul (dTup (dCons (dC (.int 0)) dNil)) (dVar 4)) (dCons (dVar 5) (dCons (dVar 7) dNil))))) (dCons (dCall (fCall 4 mSum) (dCons (dVar 3) (dCons (dVar 5) (dCons (dVar 6) (dCons (dC (.int 1)) dNil))))) dNil)))) (tName 10))
  (dSeq (dIfS (dOrT (dNotT (dTest (dCall (fCall 2 (mLike 12)) (dCons (dVar 9) (dCons (dVar 10) dNil))))) (dTest (dBin fNe (dVar 8) (dCall fList (dCons (dVar 5) dNil))))) (dRet (dC (.bl false))) dSkip)
  (dSeq (dAsg (dCall fSum (dCons (dLc (dArg fZip (dCons (dVar 5) (dCons (dVar 6) dNil))) [16, 17] (Dv.tTup 2 (tsCons (tName 16) (tsCons (tName 17) tsNil))) dYes (dBin fMul (dVar 16) (dVar 17))) dNil)) (tName 11))
  (dSeq (dIfS (dNotT (dTest (dCall (fCall 2 (mLike 12)) (dCons (dLst (dCons (dCall (fCall 3 mValue) (dCons (dVar 8) (dCons (dVar 6) (dCons (dVar 3) dNil)))) (dCons (dCallK (fCall 3 mValue) 2 1 (dCons (dVar 6) (dCons (dVar 8) dNil)) (dCons (dVar 3) dNil)) dNil))) (dCons (dBin fMul (dLst (dCons (dBin fMod (dCall fInt (dCons (dVar 11) dNil)) (dVar 3)) dNil)) (dC (.int 2))) dNil))))) (dRet (dC (.bl false))) dSkip)
  (dSeq (dPar2 12 13 (dCons (dCall (fCall 2 mScaled) (dCons (dVar 8) (dCons (dVar 3) dNil))) (dCons (dCall (fCall 1 mLead) (dCons (dVar 5) dNil)) dNil)))
  (dSeq (dIfS (dOrT (dNotT (dTest (dCall fIsi (dCons (dVar 12) (dCons (dC (.ty "tuple")) dNil))))) (dOrT (dAndT (dTest (dBin (fCmp fun i j => decide (i < j)) (dVar 13) (dC (.int 0)))) (dTest (dBin fNe (dVar 12) (dVar 5)))) (dAndT (dTest (dBin (fCmp fun i j => decide (j ≤ i)) (dVar 13) (dC (.int 0)))) (dTest (dBin fNe (dBin fIxS (dVar 12) (dVar 13)) (dC (.int 1))))))) (dRet (dC (.bl false))) dSkip)
  (dSeq (dIfS (dOrT (dAndT (dTest (dBin (fCmp fun i j => decide (j ≤ i)) (dVar 13) (dC (.int 0)))) (dTest (dBin fNe (dCall (fCall 4 mSum) (dCons (dVar 3) (dCons (dBin fMul (dTup (dCons (dC (.int 0)) dNil)) (dVar 4)) (dCons (dVar 12) (dCons (dBin fIxS (dVar 5) (dVar 13)) dNil))))) (dVar 5)))) (dTest (dBin fNe (dCallK (fCall 2 mScaled) 1 1 (dCons (dVar 12) dNil) (dCons (dVar 3) dNil)) (dVar 12)))) (dRet (dC (.bl false))) dSkip)
  (dFor (dArg fRange2 (dCons (dC (.int 1)) (dCons (dVar 3) dNil))) (tName 14) (dSeq (dAsg (dCall (fCall 2 mInverse) (dCons (dVar 14) (dCons (dVar 3) dNil))) (tName 15))
  (dIfS (dNotT (dTest (dCall (fCall 2 (mLike 12)) (dCons (dLst (dCons (dChain (fCmp fun i j => decide (i < j)) (fCmp fun i j => decide (i < j)) (dC (.int 0)) (dVar 15) (dVar 3)) (dCons (dBin fMod (dCall fInt (dCons (dBin fMul (dVar 14) (dVar 15)) dNil)) (dVar 3)) dNil))) (dCons (dLst (dCons (dC (.bl true)) (dCons (dC (.int 1)) dNil))) dNil))))) (dRet (dC (.bl false))) dSkip)))))))))))))))
  (dRet (dC (.bl true)))))
def m_law : Fn := cleanD (defD 18 b_law)
/-! ### what the module holds -/
structure GS (K : PySem.W.Frag) (mg : Str → Option Value) : Prop where
  f_all : mg "all" = none
  f_bool : mg "bool" = none
  f_enumerate : mg "enumerate" = none
  f_int : mg "int" = none
  f_isinstance : mg "isinstance" = none
  f_len : mg "len" = none
  f_list : mg "list" = none
  f_range : mg "range" = none
  f_str : mg "str" = none
  f_sum : mg "sum" = none
  f_tuple : mg "tuple" = none
  f_zip : mg "zip" = none
  d__law_source : ∃ f fd, mg "_law_source" = some (.ref f) ∧ FunD K "_law_source" "_law_source" (defArgs s__law_source) (defBody s__law_source) (defScope s__law_source) [] [] f fd
  d__law_draw : ∃ f fd, mg "_law_draw" = some (.ref f) ∧ FunD K "_law_draw" "_law_draw" (defArgs s__law_draw) (defBody s__law_draw) (defScope s__law_draw) [] [] f fd
  d__law_of : ∃ f fd, mg "_law_of" = some (.ref f) ∧ FunD K "_law_of" "_law_of" (defArgs s__law_of) (defBody s__law_of) (defScope s__law_of) [] [] f fd
  d__law_sizes : ∃ f fd, mg "_law_sizes" = some (.ref f) ∧ FunD K "_law_sizes" "_law_sizes" (defArgs s__law_sizes) (defBody s__law_sizes) (defScope s__law_sizes) [] [] f fd
  d__law_row : ∃ f fd, mg "_law_row" = some (.ref f) ∧ FunD K "_law_row" "_law_row" (defArgs s__law_row) (defBody s__law_row) (defScope s__law_row) [] [] f fd
  d_added : ∃ f fd, mg "added" = some (.ref f) ∧ FunD K "added" "added" (defArgs s_added) (defBody s_added) (defScope s_added) [] [] f fd
  d_multiplied : ∃ f fd, mg "multiplied" = some (.ref f) ∧ FunD K "multiplied" "multiplied" (defArgs s_multiplied) (defBody s_multiplied) (defScope s_multiplied) [] [] f fd
  d__law_sum : ∃ f fd, mg "_law_sum" = some (.ref f) ∧ FunD K "_law_sum" "_law_sum" (defArgs s__law_sum) (defBody s__law_sum) (defScope s__law_sum) [] [] f fd
  d__law_like : ∃ f fd, mg "_law_like" = some (.ref f) ∧ FunD K "_law_like" "_law_like" (defArgs s__law_like) (defBody s__law_like) (defScope s__law_like) [] [] f fd
  d_leading_place : ∃ f fd, mg "leading_place" = some (.ref f) ∧ FunD K "leading_place" "leading_place" (defArgs s_leading_place) (defBody s_leading_place) (defScope s_leading_place) [] [] f fd
  d_inverse : ∃ f fd, mg "inverse" = some (.ref f) ∧ FunD K "inverse" "inverse" (defArgs s_inverse) (defBody s_inverse) (defScope s_inverse) [] [] f fd
  d_scaled : ∃ f fd, mg "scaled" = some (.ref f) ∧ FunD K "scaled" "scaled" (defArgs s_scaled) (defBody s_scaled) (defScope s_scaled) [] [] f fd
  d__law_lead : ∃ f fd, mg "_law_lead" = some (.ref f) ∧ FunD K "_law_lead" "_law_lead" (defArgs s__law_lead) (defBody s__law_lead) (defScope s__law_lead) [] [] f fd
  d_value : ∃ f fd, mg "value" = some (.ref f) ∧ FunD K "value" "value" (defArgs s_value) (defBody s_value) (defScope s_value) [] [] f fd
  d_law : ∃ f fd, mg "law" = some (.ref f) ∧ FunD K "law" "law" (defArgs s_law) (defBody s_law) (defScope s_law) [] [] f fd
section
variable {P : Program} {w : World} {K : PySem.W.Frag} {mg : Str → Option Value} {base : Heap}
theorem sc__law_source : FnScope N__law_source P__law_source (defScope s__law_source) := ⟨rfl, rfl, rfl, by decide +kernel, rfl, by decide +kernel, by decide +kernel⟩
theorem ok__law_source (G : GS K mg)  : Callee P w K mg base "_law_source" P__law_source [] 1 m__law_source := by
  obtain ⟨f, fd, hm, F⟩ := G.d__law_source
  have nd := (sc__law_source).nd
  have hC : Callee P w K mg base "_law_source" P__law_source [] (0 + 1) (cleanD (defD N__law_source.length b__law_source)) := by
    refine callee hm F sc__law_source (fun _ _ _ _ _ _ us hl => match us, hl with | [_], _ => rfl) (fun q hq => absurd hq List.not_mem_nil) fun cdv A outer s H E B hr => ?_
    have tk := takes_cx (P := P) (w := w) (K := K) (mg := mg) (base := base) (N := N__law_source) (qual := "_law_source") (scope := defScope s__law_source) (f := f) (cdv := cdv) (A := A) (outer := outer) (s := s) (H := H) (E := E)
    unfold b__law_source
    exact (dss_one (ds_ret (de_lst (da_cons (list_ G.f_list (da_cons (de_slice (vv 0) do_none (do_some de_int)) da_nil)) (da_cons de_int (da_cons de_int (da_cons de_int (da_cons de_int da_nil))))))))
  exact hC.adopt
theorem sc__law_draw : FnScope N__law_draw P__law_draw (defScope s__law_draw) := ⟨rfl, rfl, rfl, by decide +kernel, rfl, by decide +kernel, by decide +kernel⟩
theorem ok__law_draw (G : GS K mg)  : Callee P w K mg base "_law_draw" P__law_draw [] 1 m__law_draw := by
  obtain ⟨f, fd, hm, F⟩ := G.d__law_draw
  have nd := (sc__law_draw).nd
  have hC : Callee P w K mg base "_law_draw" P__law_draw [] (0 + 1) (cleanD (defD N__law_draw.length b__law_draw)) := by
    refine callee hm F sc__law_draw (fun _ _ _ _ _ _ us hl => match us, hl with | [_, _], _ => rfl) (fun q hq => absurd hq List.not_mem_nil) fun cdv A outer s H E B hr => ?_
    have tk := takes_cx (P := P) (w := w) (K := K) (mg := mg) (base := base) (N := N__law_draw) (qual := "_law_draw") (scope := defScope s__law_draw) (f := f) (cdv := cdv) (A := A) (outer := outer) (s := s) (H := H) (E := E)
    unfold b__law_draw bDraw
    exact (dss_cons (ds_if (dw_t (dw_and (dt_cmp (op_eqD (unitsOk hr)) opd_eq (ix_ (vv 0) de_int) de_int (nomark _)) (dw_and1 (dt_cmp op_lt opd_cmp (ix_ (vv 0) de_int) (len_ G.f_len (da_cons (ix_ (vv 0) de_int) da_nil)) (nomark _))))) (dss_cons (ds_set nd rfl (by first | exact .inl rfl | exact .inr rfl) (ix_ (ix_ (vv 0) de_int) (ix_ (vv 0) de_int)))
  (dss_cons (ds_setS (de_op op_addA opd_add (ix_ (vv 0) de_int) de_int) (vv 0) de_int)
  (dss_one (ds_if (dt_cmp op_ge opd_cmp (vv 2) (de_op op_pow opd_pow de_int de_int) (nomark _)) (dss_one (ds_setS (vv 2) (vv 0) de_int)) (dss_one (ds_setS (de_op op_mod opd_mod (int_ G.f_int (da_cons (de_op op_addA opd_add (de_op op_addA opd_add (de_op op_mulA opd_mul (ix_ (vv 0) de_int) de_int) (de_op op_mulA opd_mul (de_op op_mod opd_mod (int_ G.f_int (da_cons (vv 2) da_nil)) de_int) de_int)) de_int) da_nil)) de_int) (vv 0) de_int)))))) dss_nil)
  (dss_cons (ds_if (dt_cmp op_gt opd_cmp (ix_ (vv 0) de_int) de_int (nomark _)) (dss_cons (ds_set nd rfl (by first | exact .inl rfl | exact .inr rfl) (de_op op_mod opd_mod (int_ G.f_int (da_cons (ix_ (vv 0) de_int) da_nil)) (vv 1)))
  (dss_cons (ds_setS (de_op op_fdiv opd_div (ix_ (vv 0) de_int) (vv 1)) (vv 0) de_int)
  (dss_one (ds_ret (vv 3))))) dss_nil)
  (dss_cons (ds_setS (de_op op_addA opd_add (ix_ (vv 0) de_int) de_int) (vv 0) de_int)
  (dss_cons (ds_set nd rfl (by first | exact .inl rfl | exact .inr rfl) (ix_ (vv 0) de_int))
  (dss_cons (ds_setS (de_op op_mod opd_mod (int_ G.f_int (da_cons (de_op op_addA opd_add (de_op op_addA opd_add (de_op op_addA opd_add (de_op op_mulA opd_mul (vv 4) (vv 4)) (de_op op_mulA opd_mul (vv 4) de_int)) (de_op op_mulA opd_mul (ix_ (vv 0) de_int) de_int)) de_int) da_nil)) de_int) (vv 0) de_int)
  (dss_one (ds_ret (de_op op_mod opd_mod (int_ G.f_int (da_cons (de_op op_addA opd_add (de_op op_fdiv opd_div (ix_ (vv 0) de_int) de_int) (de_op op_mulA opd_mul (de_op op_mod opd_mod (int_ G.f_int (da_cons (ix_ (vv 0) de_int) da_nil)) de_int) de_int)) da_nil)) (vv 1)))))))))
  exact hC
theorem sc__law_of : FnScope N__law_of P__law_of (defScope s__law_of) := ⟨rfl, rfl, rfl, by decide +kernel, rfl, by decide +kernel, by decide +kernel⟩
theorem ok__law_of (G : GS K mg) (C__law_draw : Callee P w K mg base "_law_draw" P__law_draw [] 1 mDraw) : Callee P w K mg base "_law_of" P__law_of [] 2 m__law_of := by
  obtain ⟨f, fd, hm, F⟩ := G.d__law_of
  have nd := (sc__law_of).nd
  have hC : Callee P w K mg base "_law_of" P__law_of [] (1 + 1) (cleanD (defD N__law_of.length b__law_of)) := by
    refine callee hm F sc__law_of (fun _ _ _ _ _ _ us hl => match us, hl with | [_, _], _ => rfl) (fun q hq => absurd hq List.not_mem_nil) fun cdv A outer s H E B hr => ?_
    have tk := takes_cx (P := P) (w := w) (K := K) (mg := mg) (base := base) (N := N__law_of) (qual := "_law_of") (scope := defScope s__law_of) (f := f) (cdv := cdv) (A := A) (outer := outer) (s := s) (H := H) (E := E)
    unfold b__law_of bOf
    exact (dss_one (ds_ret (ix_ (vv 1) (de_callN C__law_draw (hr.mono (by decide)) tk (by rfl) (da_cons (vv 0) (da_cons (len_ G.f_len (da_cons (vv 1) da_nil)) da_nil))))))
  exact hC
theorem sc__law_sizes : FnScope N__law_sizes P__law_sizes (defScope s__law_sizes) := ⟨rfl, rfl, rfl, by decide +kernel, rfl, by decide +kernel, by decide +kernel⟩
theorem ok__law_sizes (G : GS K mg) (C__law_of : Callee P w K mg base "_law_of" P__law_of [] 2 mOf) : Callee P w K mg base "_law_sizes" P__law_sizes [] 3 m__law_sizes := by
  obtain ⟨f, fd, hm, F⟩ := G.d__law_sizes
  have nd := (sc__law_sizes).nd
  have hC : Callee P w K mg base "_law_sizes" P__law_sizes [] (2 + 1) (cleanD (defD N__law_sizes.length b__law_sizes)) := by
    refine callee hm F sc__law_sizes (fun _ _ _ _ _ _ us hl => match us, hl with | [_], _ => rfl) (fun q hq => absurd hq List.not_mem_nil) fun cdv A outer s H E B hr => ?_
    have tk := takes_cx (P := P) (w := w) (K := K) (mg := mg) (base := base) (N := N__law_sizes) (qual := "_law_sizes") (scope := defScope s__law_sizes) (f := f) (cdv := cdv) (A := A) (outer := outer) (s := s) (H := H) (E := E)
    unfold b__law_sizes
    exact (dss_cons (ds_set nd rfl (by first | exact .inl rfl | exact .inr rfl) (de_lst (da_cons (de_tup (da_cons de_int (da_cons de_int da_nil))) (da_cons (de_tup (da_cons de_int (da_cons de_int da_nil))) (da_cons (de_tup (da_cons de_int (da_cons de_int da_nil))) (da_cons (de_tup (da_cons de_int (da_cons de_int da_nil))) (da_cons (de_tup (da_cons de_int (da_cons de_int da_nil))) (da_cons (de_tup (da_cons de_int (da_cons de_int da_nil))) (da_cons (de_tup (da_cons de_int (da_cons de_int da_nil))) (da_cons (de_tup (da_cons de_int (da_cons de_int da_nil))) (da_cons (de_tup (da_cons de_int (da_cons de_int da_nil))) (da_cons (de_tup (da_cons de_int (da_cons de_int da_nil))) (da_cons (de_tup (da_cons de_int (da_cons de_int da_nil))) (da_cons (de_tup (da_cons de_int (da_cons de_int da_nil))) da_nil))))))))))))))
  (dss_one (ds_ret (de_callN C__law_of (hr.mono (by decide)) tk (by rfl) (da_cons (vv 0) (da_cons (vv 1) da_nil))))))
  exact hC
theorem sc__law_row : FnScope N__law_row P__law_row (defScope s__law_row) := ⟨rfl, rfl, rfl, by decide +kernel, rfl, by decide +kernel, by decide +kernel⟩
theorem ok__law_row (G : GS K mg) (C__law_draw : Callee P w K mg base "_law_draw" P__law_draw [] 1 mDraw) : Callee P w K mg base "_law_row" P__law_row [] 2 m__law_row := by
  obtain ⟨f, fd, hm, F⟩ := G.d__law_row
  have nd := (sc__law_row).nd
  have hC : Callee P w K mg base "_law_row" P__law_row [] (1 + 1) (cleanD (defD N__law_row.length b__law_row)) := by
    refine callee hm F sc__law_row (fun _ _ _ _ _ _ us hl => match us, hl with | [_, _, _], _ => rfl) (fun q hq => absurd hq List.not_mem_nil) fun cdv A outer s H E B hr => ?_
    have tk := takes_cx (P := P) (w := w) (K := K) (mg := mg) (base := base) (N := N__law_row) (qual := "_law_row") (scope := defScope s__law_row) (f := f) (cdv := cdv) (A := A) (outer := outer) (s := s) (H := H) (E := E)
    unfold b__law_row bRow
    exact (dss_one (ds_ret (tuple_ G.f_tuple (da_cons (de_lc (own := [("_law_k", 3)]) rfl nd (di_range1 (by rfl) G.f_range (da_cons (vv 2) da_nil)) (blkOk_by (by kernel_rfl)) gd_name (by decide) (fun _ _ _ _ _ => (pg_name (i := 3) nd rfl (by first | exact .inl rfl | exact .inr rfl) (by first | exact .inl rfl | exact .inr rfl))) (fun _ _ _ _ _ _ => dts_nil) (fun _ _ _ _ _ _ => (de_callN C__law_draw (hr.mono (by decide)) takes0 (by rfl) (da_cons (vv 0) (da_cons (vv 1) da_nil))))) da_nil))))
  exact hC
theorem sc_added : FnScope N_added P_added (defScope s_added) := ⟨rfl, rfl, rfl, by decide +kernel, rfl, by decide +kernel, by decide +kernel⟩
theorem ok_added (G : GS K mg)  : Callee P w K mg base "added" P_added [(2, ["prime"])] 1 m_added := by
  obtain ⟨f, fd, hm, F⟩ := G.d_added
  have nd := (sc_added).nd
  have hC : Callee P w K mg base "added" P_added [(2, ["prime"])] (0 + 1) (cleanD (defD N_added.length b_added)) := by
    refine callee hm F sc_added (fun _ _ _ _ _ _ us hl => match us, hl with | [_, _, _], _ => rfl) (by
    intro q hq
    simp only [List.mem_cons, List.not_mem_nil, or_false] at hq
    subst hq
    · exact fun _ _ _ _ _ _ us ws h1 h2 => match us, ws, h1, h2 with | [_, _], [_], _, _ => rfl
    ) fun cdv A outer s H E B hr => ?_
    have tk := takes_cx (P := P) (w := w) (K := K) (mg := mg) (base := base) (N := N_added) (qual := "added") (scope := defScope s_added) (f := f) (cdv := cdv) (A := A) (outer := outer) (s := s) (H := H) (E := E)
    unfold b_added bAdded
    exact (dss_one (ds_ret (tuple_ G.f_tuple (da_cons (de_lc (own := [("a", 3), ("b", 4)]) rfl nd (di_zip (by rfl) G.f_zip (da_cons (vv 0) (da_cons (vv 1) da_nil))) (blkOk_by (by kernel_rfl)) (gd_tup (gsd_cons gd_name (gsd_cons gd_name gsd_nil))) (by decide) (fun _ _ _ _ _ => (pg_tup rfl (pgs_cons (pg_name (i := 3) nd rfl (by first | exact .inl rfl | exact .inr rfl) (by first | exact .inl rfl | exact .inr rfl)) (pgs_cons (pg_name (i := 4) nd rfl (by first | exact .inl rfl | exact .inr rfl) (by first | exact .inl rfl | exact .inr rfl)) pgs_nil)))) (fun _ _ _ _ _ _ => dts_nil) (fun _ _ _ _ _ _ => (de_op op_mod opd_mod (de_op op_addA opd_add (vv 3) (vv 4)) (vv 2)))) da_nil))))
  exact hC
theorem sc_multiplied : FnScope N_multiplied P_multiplied (defScope s_multiplied) := ⟨rfl, rfl, rfl, by decide +kernel, rfl, by decide +kernel, by decide +kernel⟩
theorem ok_multiplied (G : GS K mg)  : Callee P w K mg base "multiplied" P_multiplied [] 1 m_multiplied := by
  obtain ⟨f, fd, hm, F⟩ := G.d_multiplied
  have nd := (sc_multiplied).nd
  have hC : Callee P w K mg base "multiplied" P_multiplied [] (0 + 1) (cleanD (defD N_multiplied.length b_multiplied)) := by
    refine callee hm F sc_multiplied (fun _ _ _ _ _ _ us hl => match us, hl with | [_, _, _], _ => rfl) (fun q hq => absurd hq List.not_mem_nil) fun cdv A outer s H E B hr => ?_
    have tk := takes_cx (P := P) (w := w) (K := K) (mg := mg) (base := base) (N := N_multiplied) (qual := "multiplied") (scope := defScope s_multiplied) (f := f) (cdv := cdv) (A := A) (outer := outer) (s := s) (H := H) (E := E)
    unfold b_multiplied bMultiplied
    exact (dss_one (ds_ret (tuple_ G.f_tuple (da_cons (de_lc (own := [("entry", 3)]) rfl nd (di_seq (vv 0)) (blkOk_by (by kernel_rfl)) gd_name (by decide) (fun _ _ _ _ _ => (pg_name (i := 3) nd rfl (by first | exact .inl rfl | exact .inr rfl) (by first | exact .inl rfl | exact .inr rfl))) (fun _ _ _ _ _ _ => dts_nil) (fun _ _ _ _ _ _ => (de_op op_mod opd_mod (de_op op_mulA opd_mul (vv 3) (vv 1)) (vv 2)))) da_nil))))
  exact hC
theorem sc__law_sum : FnScope N__law_sum P__law_sum (defScope s__law_sum) := ⟨rfl, rfl, rfl, by decide +kernel, rfl, by decide +kernel, by decide +kernel⟩
theorem ok__law_sum (G : GS K mg)  : Callee P w K mg base "_law_sum" P__law_sum [] 1 m__law_sum := by
  obtain ⟨f, fd, hm, F⟩ := G.d__law_sum
  have nd := (sc__law_sum).nd
  have hC : Callee P w K mg base "_law_sum" P__law_sum [] (0 + 1) (cleanD (defD N__law_sum.length b__law_sum)) := by
    refine callee hm F sc__law_sum (fun _ _ _ _ _ _ us hl => match us, hl with | [_, _, _, _], _ => rfl) (fun q hq => absurd hq List.not_mem_nil) fun cdv A outer s H E B hr => ?_
    have tk := takes_cx (P := P) (w := w) (K := K) (mg := mg) (base := base) (N := N__law_sum) (qual := "_law_sum") (scope := defScope s__law_sum) (f := f) (cdv := cdv) (A := A) (outer := outer) (s := s) (H := H) (E := E)
    unfold b__law_sum bSum
    exact (dss_one (ds_ret (tuple_ G.f_tuple (da_cons (de_lc (own := [("_law_a", 4), ("_law_b", 5)]) rfl nd (di_zip (by rfl) G.f_zip (da_cons (vv 1) (da_cons (vv 2) da_nil))) (blkOk_by (by kernel_rfl)) (gd_tup (gsd_cons gd_name (gsd_cons gd_name gsd_nil))) (by decide) (fun _ _ _ _ _ => (pg_tup rfl (pgs_cons (pg_name (i := 4) nd rfl (by first | exact .inl rfl | exact .inr rfl) (by first | exact .inl rfl | exact .inr rfl)) (pgs_cons (pg_name (i := 5) nd rfl (by first | exact .inl rfl | exact .inr rfl) (by first | exact .inl rfl | exact .inr rfl)) pgs_nil)))) (fun _ _ _ _ _ _ => dts_nil) (fun _ _ _ _ _ _ => (de_op op_mod opd_mod (int_ G.f_int (da_cons (de_op op_addA opd_add (vv 4) (de_op op_mulA opd_mul (vv 3) (vv 5))) da_nil)) (vv 0)))) da_nil))))
  exact hC
theorem sc__law_like : FnScope N__law_like P__law_like (defScope s__law_like) := ⟨rfl, rfl, rfl, by decide +kernel, rfl, by decide +kernel, by decide +kernel⟩
theorem ok__law_like (G : GS K mg)  : ∀ n, Callee P w K mg base "_law_like" P__law_like [] (n + 0) (m__law_like n)
  | 0 => by
    obtain ⟨f, fd, hm, F⟩ := G.d__law_like
    exact callee0 hm F (fun _ _ _ _ _ _ us hl => match us, hl with | [_, _], _ => rfl) (fun q hq => absurd hq List.not_mem_nil)
  | n + 1 => by
    have ih := ok__law_like G  n
    obtain ⟨f, fd, hm, F⟩ := G.d__law_like
    have nd := (sc__law_like).nd
    refine callee (N := N__law_like) (m := bLike (mLike n)) hm F sc__law_like (fun _ _ _ _ _ _ us hl => match us, hl with | [_, _], _ => rfl) (fun q hq => absurd hq List.not_mem_nil) fun cdv A outer s H E B hr => ?_
    have tk := takes_cx (P := P) (w := w) (K := K) (mg := mg) (base := base) (N := N__law_like) (qual := "_law_like") (scope := defScope s__law_like) (f := f) (cdv := cdv) (A := A) (outer := outer) (s := s) (H := H) (E := E)
    unfold bLike
    exact (dss_cons (ds_if (dt_val (isi_ G.f_isinstance (da_cons (vv 1) (da_cons (de_tup (da_cons (ty_list G.f_list) (da_cons (ty_tuple G.f_tuple) da_nil))) da_nil))) (by intro _; rfl)) (dss_cons (ds_if (dt_cmp (op_neD (unitsOk hr)) opd_ne (isi_ G.f_isinstance (da_cons (vv 0) (da_cons (ty_list G.f_list) da_nil))) (isi_ G.f_isinstance (da_cons (vv 1) (da_cons (ty_list G.f_list) da_nil))) (nomark _)) (dss_one (ds_ret de_bl)) dss_nil)
  (dss_cons (ds_if (dt_cmp (op_neD (unitsOk hr)) opd_ne (isi_ G.f_isinstance (da_cons (vv 0) (da_cons (ty_tuple G.f_tuple) da_nil))) (isi_ G.f_isinstance (da_cons (vv 1) (da_cons (ty_tuple G.f_tuple) da_nil))) (nomark _)) (dss_one (ds_ret de_bl)) dss_nil)
  (dss_one (ds_ret (de_and (de_cmp (op_eqD (unitsOk hr)) opd_eq (len_ G.f_len (da_cons (vv 0) da_nil)) (len_ G.f_len (da_cons (vv 1) da_nil)) (nomark _)) (de_one (all_ G.f_all (da_cons (de_lc (own := [("_law_one", 2), ("_law_other", 3)]) rfl nd (di_zip (by rfl) G.f_zip (da_cons (vv 0) (da_cons (vv 1) da_nil))) (blkOk_by (by kernel_rfl)) (gd_tup (gsd_cons gd_name (gsd_cons gd_name gsd_nil))) (by decide) (fun _ _ _ _ _ => (pg_tup rfl (pgs_cons (pg_name (i := 2) nd rfl (by first | exact .inl rfl | exact .inr rfl) (by first | exact .inl rfl | exact .inr rfl)) (pgs_cons (pg_name (i := 3) nd rfl (by first | exact .inl rfl | exact .inr rfl) (by first | exact .inl rfl | exact .inr rfl)) pgs_nil)))) (fun _ _ _ _ _ _ => dts_nil) (fun _ _ _ _ _ _ => (de_callN ih (hr.mono (by omega)) takes0 (by rfl) (da_cons (vv 2) (da_cons (vv 3) da_nil))))) da_nil)))))))) dss_nil)
  (dss_cons (ds_if (dw_t (dw_or (dt_cmp op_isN opd_is (vv 1) de_non (nomark _)) (dw_or1 (dt_cmp op_isN opd_is (vv 0) de_non (nomark _))))) (dss_one (ds_ret (de_and (de_cmp op_isN opd_is (vv 1) de_non (nomark _)) (de_one (de_cmp op_isN opd_is (vv 0) de_non (nomark _)))))) dss_nil)
  (dss_cons (ds_if (dw_t (dw_or (dt_cmp (op_neD (unitsOk hr)) opd_ne (isi_ G.f_isinstance (da_cons (vv 0) (da_cons (ty_bool G.f_bool) da_nil))) (isi_ G.f_isinstance (da_cons (vv 1) (da_cons (ty_bool G.f_bool) da_nil))) (nomark _)) (dw_or1 (dt_cmp (op_neD (unitsOk hr)) opd_ne (isi_ G.f_isinstance (da_cons (vv 0) (da_cons (ty_int G.f_int) da_nil))) (isi_ G.f_isinstance (da_cons (vv 1) (da_cons (ty_int G.f_int) da_nil))) (nomark _))))) (dss_one (ds_ret de_bl)) dss_nil)
  (dss_one (ds_ret (de_and (de_cmp (op_eqD (unitsOk hr)) opd_eq (isi_ G.f_isinstance (da_cons (vv 0) (da_cons (ty_str G.f_str) da_nil))) (isi_ G.f_isinstance (da_cons (vv 1) (da_cons (ty_str G.f_str) da_nil))) (nomark _)) (de_one (de_cmp (op_eqD (unitsOk hr)) opd_eq (vv 0) (vv 1) (nomark _)))))))))
theorem sc_leading_place : FnScope N_leading_place P_leading_place (defScope s_leading_place) := ⟨rfl, rfl, rfl, by decide +kernel, rfl, by decide +kernel, by decide +kernel⟩
theorem ok_leading_place (G : GS K mg)  : Callee P w K mg base "leading_place" P_leading_place [] 1 m_leading_place := by
  obtain ⟨f, fd, hm, F⟩ := G.d_leading_place
  have nd := (sc_leading_place).nd
  have hC : Callee P w K mg base "leading_place" P_leading_place [] (0 + 1) (cleanD (defD N_leading_place.length b_leading_place)) := by
    refine callee hm F sc_leading_place (fun _ _ _ _ _ _ us hl => match us, hl with | [_], _ => rfl) (fun q hq => absurd hq List.not_mem_nil) fun cdv A outer s H E B hr => ?_
    have tk := takes_cx (P := P) (w := w) (K := K) (mg := mg) (base := base) (N := N_leading_place) (qual := "leading_place") (scope := defScope s_leading_place) (f := f) (cdv := cdv) (A := A) (outer := outer) (s := s) (H := H) (E := E)
    unfold b_leading_place bLeadingPlace
    exact (dss_cons (ds_for PassesOwn.leaving rfl (di_enum (by rfl) G.f_enumerate (da_cons (vv 0) da_nil)) (pg_tup rfl (pgs_cons (pg_name (i := 1) nd rfl (by first | exact .inl rfl | exact .inr rfl) (by first | exact .inl rfl | exact .inr rfl)) (pgs_cons (pg_name (i := 2) nd rfl (by first | exact .inl rfl | exact .inr rfl) (by first | exact .inl rfl | exact .inr rfl)) pgs_nil))) (gd_tup (gsd_cons gd_name (gsd_cons gd_name gsd_nil))) (dss_one (ds_if (dt_cmp (op_neD (unitsOk hr)) opd_ne (vv 2) de_int (nomark _)) (dss_one (ds_ret (vv 1))) dss_nil)))
  (dss_one (ds_ret (len_ G.f_len (da_cons (vv 0) da_nil)))))
  exact hC
theorem sc_inverse : FnScope N_inverse P_inverse (defScope s_inverse) := ⟨rfl, rfl, rfl, by decide +kernel, rfl, by decide +kernel, by decide +kernel⟩
theorem ok_inverse (G : GS K mg)  : Callee P w K mg base "inverse" P_inverse [] 1 m_inverse := by
  obtain ⟨f, fd, hm, F⟩ := G.d_inverse
  have nd := (sc_inverse).nd
  have hC : Callee P w K mg base "inverse" P_inverse [] (0 + 1) (cleanD (defD N_inverse.length b_inverse)) := by
    refine callee hm F sc_inverse (fun _ _ _ _ _ _ us hl => match us, hl with | [_, _], _ => rfl) (fun q hq => absurd hq List.not_mem_nil) fun cdv A outer s H E B hr => ?_
    have tk := takes_cx (P := P) (w := w) (K := K) (mg := mg) (base := base) (N := N_inverse) (qual := "inverse") (scope := defScope s_inverse) (f := f) (cdv := cdv) (A := A) (outer := outer) (s := s) (H := H) (E := E)
    unfold b_inverse bInverse
    exact (dss_one (ds_ret (ix_ (de_lc (own := [("other", 2)]) rfl nd (di_range2 (by rfl) G.f_range (da_cons de_int (da_cons (vv 1) da_nil))) (blkOk_by (by kernel_rfl)) gd_name (by decide) (fun _ _ _ _ _ => (pg_name (i := 2) nd rfl (by first | exact .inl rfl | exact .inr rfl) (by first | exact .inl rfl | exact .inr rfl))) (fun _ _ _ _ _ _ => (dts_one (dt_cmp (op_eqD (unitsOk hr)) opd_eq (de_op op_mod opd_mod (de_op op_mulA opd_mul (vv 0) (vv 2)) (vv 1)) de_int (nomark _)))) (fun _ _ _ _ _ _ => (vv 2))) de_int)))
  exact hC
theorem sc_scaled : FnScope N_scaled P_scaled (defScope s_scaled) := ⟨rfl, rfl, rfl, by decide +kernel, rfl, by decide +kernel, by decide +kernel⟩
theorem ok_scaled (G : GS K mg) (C_leading_place : Callee P w K mg base "leading_place" P_leading_place [] 1 mLeadingPlace) (C_multiplied : Callee P w K mg base "multiplied" P_multiplied [] 1 mMultiplied) (C_inverse : Callee P w K mg base "inverse" P_inverse [] 1 mInverse) : Callee P w K mg base "scaled" P_scaled [(1, ["prime"])] 2 m_scaled := by
  obtain ⟨f, fd, hm, F⟩ := G.d_scaled
  have nd := (sc_scaled).nd
  have hC : Callee P w K mg base "scaled" P_scaled [(1, ["prime"])] (1 + 1) (cleanD (defD N_scaled.length b_scaled)) := by
    refine callee hm F sc_scaled (fun _ _ _ _ _ _ us hl => match us, hl with | [_, _], _ => rfl) (by
    intro q hq
    simp only [List.mem_cons, List.not_mem_nil, or_false] at hq
    subst hq
    · exact fun _ _ _ _ _ _ us ws h1 h2 => match us, ws, h1, h2 with | [_], [_], _, _ => rfl
    ) fun cdv A outer s H E B hr => ?_
    have tk := takes_cx (P := P) (w := w) (K := K) (mg := mg) (base := base) (N := N_scaled) (qual := "scaled") (scope := defScope s_scaled) (f := f) (cdv := cdv) (A := A) (outer := outer) (s := s) (H := H) (E := E)
    unfold b_scaled bScaled
    exact (dss_cons (ds_set nd rfl (by first | exact .inl rfl | exact .inr rfl) (de_callN C_leading_place (hr.mono (by decide)) tk (by rfl) (da_cons (vv 0) da_nil)))
  (dss_cons (ds_if (dt_cmp (op_eqD (unitsOk hr)) opd_eq (vv 2) (len_ G.f_len (da_cons (vv 0) da_nil)) (nomark _)) (dss_one (ds_ret (tuple_ G.f_tuple (da_cons (vv 0) da_nil)))) dss_nil)
  (dss_one (ds_ret (de_callN C_multiplied (hr.mono (by decide)) tk (by rfl) (da_cons (vv 0) (da_cons (de_callN C_inverse (hr.mono (by decide)) tk (by rfl) (da_cons (ix_ (vv 0) (vv 2)) (da_cons (vv 1) da_nil))) (da_cons (vv 1) da_nil))))))))
  exact hC
theorem sc__law_lead : FnScope N__law_lead P__law_lead (defScope s__law_lead) := ⟨rfl, rfl, rfl, by decide +kernel, rfl, by decide +kernel, by decide +kernel⟩
theorem ok__law_lead (G : GS K mg)  : Callee P w K mg base "_law_lead" P__law_lead [] 1 m__law_lead := by
  obtain ⟨f, fd, hm, F⟩ := G.d__law_lead
  have nd := (sc__law_lead).nd
  have hC : Callee P w K mg base "_law_lead" P__law_lead [] (0 + 1) (cleanD (defD N__law_lead.length b__law_lead)) := by
    refine callee hm F sc__law_lead (fun _ _ _ _ _ _ us hl => match us, hl with | [_], _ => rfl) (fun q hq => absurd hq List.not_mem_nil) fun cdv A outer s H E B hr => ?_
    have tk := takes_cx (P := P) (w := w) (K := K) (mg := mg) (base := base) (N := N__law_lead) (qual := "_law_lead") (scope := defScope s__law_lead) (f := f) (cdv := cdv) (A := A) (outer := outer) (s := s) (H := H) (E := E)
    unfold b__law_lead bLead
    exact (dss_cons (ds_setLc (i := 1) (hc := rfl) (hN := nd) (hy := rfl) (hyl := rfl) (hsw := sw_true rfl rfl rfl (by decide +kernel)) (own := [("_law_at", 2)]) (di_range1 (by rfl) G.f_range (da_cons (len_ G.f_len (da_cons (vv 0) da_nil)) da_nil)) (blkOk_by (by kernel_rfl)) gd_name (by decide) (fun _ _ _ _ _ => (pg_name (i := 2) nd rfl (by first | exact .inl rfl | exact .inr rfl) (by first | exact .inl rfl | exact .inr rfl))) (fun _ _ _ _ _ _ => (dts_one (dt_cmp (op_neD (unitsOk hr)) opd_ne (ix_ (vv 0) (vv 2)) de_int (nomark _)))) (fun _ _ _ _ _ _ => (vv 2)))
  (dss_one (ds_ret (de_if (dt_cmp (op_neD (unitsOk hr)) opd_ne (vv 1) (de_lst da_nil) (nomark _)) (ix_ (vv 1) de_int) (de_op op_sub opd_sub de_int de_int)))))
  exact hC
theorem sc_value : FnScope N_value P_value (defScope s_value) := ⟨rfl, rfl, rfl, by decide +kernel, rfl, by decide +kernel, by decide +kernel⟩
theorem ok_value (G : GS K mg)  : Callee P w K mg base "value" P_value [(2, ["prime"])] 1 m_value := by
  obtain ⟨f, fd, hm, F⟩ := G.d_value
  have nd := (sc_value).nd
  have hC : Callee P w K mg base "value" P_value [(2, ["prime"])] (0 + 1) (cleanD (defD N_value.length b_value)) := by
    refine callee hm F sc_value (fun _ _ _ _ _ _ us hl => match us, hl with | [_, _, _], _ => rfl) (by
    intro q hq
    simp only [List.mem_cons, List.not_mem_nil, or_false] at hq
    subst hq
    · exact fun _ _ _ _ _ _ us ws h1 h2 => match us, ws, h1, h2 with | [_, _], [_], _, _ => rfl
    ) fun cdv A outer s H E B hr => ?_
    have tk := takes_cx (P := P) (w := w) (K := K) (mg := mg) (base := base) (N := N_value) (qual := "value") (scope := defScope s_value) (f := f) (cdv := cdv) (A := A) (outer := outer) (s := s) (H := H) (E := E)
    unfold b_value bValue
    exact (dss_one (ds_ret (de_op op_mod opd_mod (sum_ G.f_sum (da_cons (de_lc (own := [("entry", 3), ("worth", 4)]) rfl nd (di_zip (by rfl) G.f_zip (da_cons (vv 0) (da_cons (vv 1) da_nil))) (blkOk_by (by kernel_rfl)) (gd_tup (gsd_cons gd_name (gsd_cons gd_name gsd_nil))) (by decide) (fun _ _ _ _ _ => (pg_tup rfl (pgs_cons (pg_name (i := 3) nd rfl (by first | exact .inl rfl | exact .inr rfl) (by first | exact .inl rfl | exact .inr rfl)) (pgs_cons (pg_name (i := 4) nd rfl (by first | exact .inl rfl | exact .inr rfl) (by first | exact .inl rfl | exact .inr rfl)) pgs_nil)))) (fun _ _ _ _ _ _ => dts_nil) (fun _ _ _ _ _ _ => (de_op op_mulA opd_mul (vv 3) (vv 4)))) da_nil)) (vv 2))))
  exact hC
theorem sc_law : FnScope N_law P_law (defScope s_law) := ⟨rfl, rfl, rfl, by decide +kernel, rfl, by decide +kernel, by decide +kernel⟩
theorem ok_law (G : GS K mg) (C__law_source : Callee P w K mg base "_law_source" P__law_source [] 1 m__law_source) (C__law_sizes : Callee P w K mg base "_law_sizes" P__law_sizes [] 3 m__law_sizes) (C__law_row : Callee P w K mg base "_law_row" P__law_row [] 2 mRow) (C__law_draw : Callee P w K mg base "_law_draw" P__law_draw [] 1 mDraw) (C_added : Callee P w K mg base "added" P_added [(2, ["prime"])] 1 mAdded) (C_multiplied : Callee P w K mg base "multiplied" P_multiplied [] 1 mMultiplied) (C__law_sum : Callee P w K mg base "_law_sum" P__law_sum [] 1 mSum) (C__law_like : Callee P w K mg base "_law_like" P__law_like [] 12 (mLike 12)) (C_scaled : Callee P w K mg base "scaled" P_scaled [(1, ["prime"])] 2 mScaled) (C__law_lead : Callee P w K mg base "_law_lead" P__law_lead [] 1 mLead) (C_inverse : Callee P w K mg base "inverse" P_inverse [] 1 mInverse) (C_value : Callee P w K mg base "value" P_value [(2, ["prime"])] 1 mValue) : Callee P w K mg base "law" P_law [] 13 m_law := by
  obtain ⟨f, fd, hm, F⟩ := G.d_law
  have nd := (sc_law).nd
  have hC : Callee P w K mg base "law" P_law [] (12 + 1) (cleanD (defD N_law.length b_law)) := by
    refine callee hm F sc_law (fun _ _ _ _ _ _ us hl => match us, hl with | [_], _ => rfl) (fun q hq => absurd hq List.not_mem_nil) fun cdv A outer s H E B hr => ?_
    have tk := takes_cx (P := P) (w := w) (K := K) (mg := mg) (base := base) (N := N_law) (qual := "law") (scope := defScope s_law) (f := f) (cdv := cdv) (A := A) (outer := outer) (s := s) (H := H) (E := E)
    unfold b_law
    exact (dss_cons (ds_set nd rfl (by first | exact .inl rfl | exact .inr rfl) (de_callN C__law_source (hr.mono (by decide)) tk (by rfl) (da_cons (vv 0) da_nil)))
  (dss_cons (ds_for PassesOwn.leaving rfl (di_range1 (by rfl) G.f_range (da_cons de_int da_nil)) (pg_name (i := 2) nd rfl (by first | exact .inl rfl | exact .inr rfl) (by first | exact .inl rfl | exact .inr rfl)) gd_name (dss_cons (ds_asgG (ps_asg (de_callN C__law_sizes (hr.mono (by decide)) tk (by rfl) (da_cons (vv 1) da_nil)).run (pg_tup rfl (pgs_cons (pg_name (i := 3) nd rfl (by first | exact .inl rfl | exact .inr rfl) (by first | exact .inl rfl | exact .inr rfl)) (pgs_cons (pg_name (i := 4) nd rfl (by first | exact .inl rfl | exact .inr rfl) (by first | exact .inl rfl | exact .inr rfl)) pgs_nil)))) (fun _ _ _ h => h) (gd_tup (gsd_cons gd_name (gsd_cons gd_name gsd_nil))))
  (dss_cons (ds_par3 rfl nd rfl rfl rfl (by decide) (by decide) (by decide) rfl rfl rfl (da_cons (de_callN C__law_row (hr.mono (by decide)) tk (by rfl) (da_cons (vv 1) (da_cons (vv 3) (da_cons (vv 4) da_nil)))) (da_cons (de_callN C__law_row (hr.mono (by decide)) tk (by rfl) (da_cons (vv 1) (da_cons (vv 3) (da_cons (vv 4) da_nil)))) (da_cons (de_callN C__law_draw (hr.mono (by decide)) tk (by rfl) (da_cons (vv 1) (da_cons (vv 3) da_nil))) da_nil))) (by rfl))
  (dss_cons (ds_set nd rfl (by first | exact .inl rfl | exact .inr rfl) (list_ G.f_list (da_cons (vv 5) da_nil)))
  (dss_cons (ds_set nd rfl (by first | exact .inl rfl | exact .inr rfl) (de_lst (da_cons (de_callN C_added (hr.mono (by decide)) tk (by rfl) (da_cons (vv 8) (da_cons (vv 6) (da_cons (vv 3) da_nil)))) (da_cons (de_callN C_multiplied (hr.mono (by decide)) tk (by rfl) (da_cons (vv 8) (da_cons (vv 7) (da_cons (vv 3) da_nil)))) (da_cons (de_callKN C_added (hr.mono (by decide)) tk (by rfl) (n0 := 2) (ks := ["prime"]) (by simp) (da_cons (vv 8) (da_cons (list_ G.f_list (da_cons (vv 6) da_nil)) da_nil)) (dk_cons (vv 3) dk_nil)) da_nil)))))
  (dss_cons (ds_set nd rfl (by first | exact .inl rfl | exact .inr rfl) (de_lst (da_cons (de_callN C__law_sum (hr.mono (by decide)) tk (by rfl) (da_cons (vv 3) (da_cons (vv 5) (da_cons (vv 6) (da_cons de_int da_nil))))) (da_cons (de_callN C__law_sum (hr.mono (by decide)) tk (by rfl) (da_cons (vv 3) (da_cons (de_op op_mulA opd_mul (de_tup (da_cons de_int da_nil)) (vv 4)) (da_cons (vv 5) (da_cons (vv 7) da_nil))))) (da_cons (de_callN C__law_sum (hr.mono (by decide)) tk (by rfl) (da_cons (vv 3) (da_cons (vv 5) (da_cons (vv 6) (da_cons de_int da_nil))))) da_nil)))))
  (dss_cons (ds_if (dw_t (dw_or (dt_not (dt_val (de_callN C__law_like (hr.mono (by decide)) tk (by rfl) (da_cons (vv 9) (da_cons (vv 10) da_nil))) (by intro _; rfl))) (dw_or1 (dt_cmp (op_neD (unitsOk hr)) opd_ne (vv 8) (list_ G.f_list (da_cons (vv 5) da_nil)) (nomark _))))) (dss_one (ds_ret de_bl)) dss_nil)
  (dss_cons (ds_set nd rfl (by first | exact .inl rfl | exact .inr rfl) (sum_ G.f_sum (da_cons (de_lc (own := [("_law_a", 16), ("_law_b", 17)]) rfl nd (di_zip (by rfl) G.f_zip (da_cons (vv 5) (da_cons (vv 6) da_nil))) (blkOk_by (by kernel_rfl)) (gd_tup (gsd_cons gd_name (gsd_cons gd_name gsd_nil))) (by decide) (fun _ _ _ _ _ => (pg_tup rfl (pgs_cons (pg_name (i := 16) nd rfl (by first | exact .inl rfl | exact .inr rfl) (by first | exact .inl rfl | exact .inr rfl)) (pgs_cons (pg_name (i := 17) nd rfl (by first | exact .inl rfl | exact .inr rfl) (by first | exact .inl rfl | exact .inr rfl)) pgs_nil)))) (fun _ _ _ _ _ _ => dts_nil) (fun _ _ _ _ _ _ => (de_op op_mulA opd_mul (vv 16) (vv 17)))) da_nil)))
  (dss_cons (ds_if (dt_not (dt_val (de_callN C__law_like (hr.mono (by decide)) tk (by rfl) (da_cons (de_lst (da_cons (de_callN C_value (hr.mono (by decide)) tk (by rfl) (da_cons (vv 8) (da_cons (vv 6) (da_cons (vv 3) da_nil)))) (da_cons (de_callKN C_value (hr.mono (by decide)) tk (by rfl) (n0 := 2) (ks := ["prime"]) (by simp) (da_cons (vv 6) (da_cons (vv 8) da_nil)) (dk_cons (vv 3) dk_nil)) da_nil))) (da_cons (de_op op_mulA opd_mul (de_lst (da_cons (de_op op_mod opd_mod (int_ G.f_int (da_cons (vv 11) da_nil)) (vv 3)) da_nil)) de_int) da_nil))) (by intro _; rfl))) (dss_one (ds_ret de_bl)) dss_nil)
  (dss_cons (ds_par2 rfl nd rfl rfl (by decide) rfl rfl (da_cons (de_callN C_scaled (hr.mono (by decide)) tk (by rfl) (da_cons (vv 8) (da_cons (vv 3) da_nil))) (da_cons (de_callN C__law_lead (hr.mono (by decide)) tk (by rfl) (da_cons (vv 5) da_nil)) da_nil)) (by rfl))
  (dss_cons (ds_if (dw_t (dw_or (dt_not (dt_val (isi_ G.f_isinstance (da_cons (vv 12) (da_cons (ty_tuple G.f_tuple) da_nil))) (by intro _; rfl))) (dw_or (dw_t (dw_and (dt_cmp op_lt opd_cmp (vv 13) de_int (nomark _)) (dw_and1 (dt_cmp (op_neD (unitsOk hr)) opd_ne (vv 12) (vv 5) (nomark _))))) (dw_or1 (dw_t (dw_and (dt_cmp op_ge opd_cmp (vv 13) de_int (nomark _)) (dw_and1 (dt_cmp (op_neD (unitsOk hr)) opd_ne (ix_ (vv 12) (vv 13)) de_int (nomark _))))))))) (dss_one (ds_ret de_bl)) dss_nil)
  (dss_cons (ds_if (dw_t (dw_or (dw_t (dw_and (dt_cmp op_ge opd_cmp (vv 13) de_int (nomark _)) (dw_and1 (dt_cmp (op_neD (unitsOk hr)) opd_ne (de_callN C__law_sum (hr.mono (by decide)) tk (by rfl) (da_cons (vv 3) (da_cons (de_op op_mulA opd_mul (de_tup (da_cons de_int da_nil)) (vv 4)) (da_cons (vv 12) (da_cons (ix_ (vv 5) (vv 13)) da_nil))))) (vv 5) (nomark _))))) (dw_or1 (dt_cmp (op_neD (unitsOk hr)) opd_ne (de_callKN C_scaled (hr.mono (by decide)) tk (by rfl) (n0 := 1) (ks := ["prime"]) (by simp) (da_cons (vv 12) da_nil) (dk_cons (vv 3) dk_nil)) (vv 12) (nomark _))))) (dss_one (ds_ret de_bl)) dss_nil)
  (dss_one (ds_for PassesOwn.leaving rfl (di_range2 (by rfl) G.f_range (da_cons de_int (da_cons (vv 3) da_nil))) (pg_name (i := 14) nd rfl (by first | exact .inl rfl | exact .inr rfl) (by first | exact .inl rfl | exact .inr rfl)) gd_name (dss_cons (ds_set nd rfl (by first | exact .inl rfl | exact .inr rfl) (de_callN C_inverse (hr.mono (by decide)) tk (by rfl) (da_cons (vv 14) (da_cons (vv 3) da_nil))))
  (dss_one (ds_if (dt_not (dt_val (de_callN C__law_like (hr.mono (by decide)) tk (by rfl) (da_cons (de_lst (da_cons (de_chain op_lt opd_cmp op_lt opd_cmp de_int (vv 15) (vv 3) (by rfl)) (da_cons (de_op op_mod opd_mod (int_ G.f_int (da_cons (de_op op_mulA opd_mul (vv 14) (vv 15)) da_nil)) (vv 3)) da_nil))) (da_cons (de_lst (da_cons de_bl (da_cons de_int da_nil))) da_nil))) (by intro _; rfl))) (dss_one (ds_ret de_bl)) dss_nil)))))))))))))))))
  (dss_one (ds_ret de_bl))))
  exact hC
theorem ok_all (G : GS K mg) {f : Addr} {fd : FuncData} (F : FunD K "law" "law" (defArgs s_law) (defBody s_law) (defScope s_law) [] [] f fd) : FnOk P w K mg base (L2.CX P w) 13 f fd P_law (spD ⟨K, mg⟩ 1 m_law) := by
  have C__law_source := ok__law_source (P := P) (w := w) (base := base) G 
  have C__law_draw := ok__law_draw (P := P) (w := w) (base := base) G 
  have C__law_of := ok__law_of (P := P) (w := w) (base := base) G C__law_draw
  have C__law_sizes := ok__law_sizes (P := P) (w := w) (base := base) G C__law_of
  have C__law_row := ok__law_row (P := P) (w := w) (base := base) G C__law_draw
  have C_added := ok_added (P := P) (w := w) (base := base) G 
  have C_multiplied := ok_multiplied (P := P) (w := w) (base := base) G 
  have C__law_sum := ok__law_sum (P := P) (w := w) (base := base) G 
  have C__law_like := ok__law_like (P := P) (w := w) (base := base) G  12
  have C_leading_place := ok_leading_place (P := P) (w := w) (base := base) G 
  have C_inverse := ok_inverse (P := P) (w := w) (base := base) G 
  have C_scaled := ok_scaled (P := P) (w := w) (base := base) G C_leading_place C_multiplied C_inverse
  have C__law_lead := ok__law_lead (P := P) (w := w) (base := base) G 
  have C_value := ok_value (P := P) (w := w) (base := base) G 
  have nd := (sc_law).nd
  refine def_ok F sc_law (k := 12) fun cdv A outer s H E B hr => ?_
  have tk := takes_cx (P := P) (w := w) (K := K) (mg := mg) (base := base) (N := N_law) (qual := "law") (scope := defScope s_law) (f := f) (cdv := cdv) (A := A) (outer := outer) (s := s) (H := H) (E := E)
  unfold b_law
  exact (dss_cons (ds_set nd rfl (by first | exact .inl rfl | exact .inr rfl) (de_callN C__law_source (hr.mono (by decide)) tk (by rfl) (da_cons (vv 0) da_nil)))
  (dss_cons (ds_for PassesOwn.leaving rfl (di_range1 (by rfl) G.f_range (da_cons de_int da_nil)) (pg_name (i := 2) nd rfl (by first | exact .inl rfl | exact .inr rfl) (by first | exact .inl rfl | exact .inr rfl)) gd_name (dss_cons (ds_asgG (ps_asg (de_callN C__law_sizes (hr.mono (by decide)) tk (by rfl) (da_cons (vv 1) da_nil)).run (pg_tup rfl (pgs_cons (pg_name (i := 3) nd rfl (by first | exact .inl rfl | exact .inr rfl) (by first | exact .inl rfl | exact .inr rfl)) (pgs_cons (pg_name (i := 4) nd rfl (by first | exact .inl rfl | exact .inr rfl) (by first | exact .inl rfl | exact .inr rfl)) pgs_nil)))) (fun _ _ _ h => h) (gd_tup (gsd_cons gd_name (gsd_cons gd_name gsd_nil))))
  (dss_cons (ds_par3 rfl nd rfl rfl rfl (by decide) (by decide) (by decide) rfl rfl rfl (da_cons (de_callN C__law_row (hr.mono (by decide)) tk (by rfl) (da_cons (vv 1) (da_cons (vv 3) (da_cons (vv 4) da_nil)))) (da_cons (de_callN C__law_row (hr.mono (by decide)) tk (by rfl) (da_cons (vv 1) (da_cons (vv 3) (da_cons (vv 4) da_nil)))) (da_cons (de_callN C__law_draw (hr.mono (by decide)) tk (by rfl) (da_cons (vv 1) (da_cons (vv 3) da_nil))) da_nil))) (by rfl))
  (dss_cons (ds_set nd rfl (by first | exact .inl rfl | exact .inr rfl) (list_ G.f_list (da_cons (vv 5) da_nil)))
  (dss_cons (ds_set nd rfl (by first | exact .inl rfl | exact .inr rfl) (de_lst (da_cons (de_callN C_added (hr.mono (by decide)) tk (by rfl) (da_cons (vv 8) (da_cons (vv 6) (da_cons (vv 3) da_nil)))) (da_cons (de_callN C_multiplied (hr.mono (by decide)) tk (by rfl) (da_cons (vv 8) (da_cons (vv 7) (da_cons (vv 3) da_nil)))) (da_cons (de_callKN C_added (hr.mono (by decide)) tk (by rfl) (n0 := 2) (ks := ["prime"]) (by simp) (da_cons (vv 8) (da_cons (list_ G.f_list (da_cons (vv 6) da_nil)) da_nil)) (dk_cons (vv 3) dk_nil)) da_nil)))))
  (dss_cons (ds_set nd rfl (by first | exact .inl rfl | exact .inr rfl) (de_lst (da_cons (de_callN C__law_sum (hr.mono (by decide)) tk (by rfl) (da_cons (vv 3) (da_cons (vv 5) (da_cons (vv 6) (da_cons de_int da_nil))))) (da_cons (de_callN C__law_sum (hr.mono (by decide)) tk (by rfl) (da_cons (vv 3) (da_cons (de_op op_mulA opd_mul (de_tup (da_cons de_int da_nil)) (vv 4)) (da_cons (vv 5) (da_cons (vv 7) da_nil))))) (da_cons (de_callN C__law_sum (hr.mono (by decide)) tk (by rfl) (da_cons (vv 3) (da_cons (vv 5) (da_cons (vv 6) (da_cons de_int da_nil))))) da_nil)))))
  (dss_cons (ds_if (dw_t (dw_or (dt_not (dt_val (de_callN C__law_like (hr.mono (by decide)) tk (by rfl) (da_cons (vv 9) (da_cons (vv 10) da_nil))) (by intro _; rfl))) (dw_or1 (dt_cmp (op_neD (unitsOk hr)) opd_ne (vv 8) (list_ G.f_list (da_cons (vv 5) da_nil)) (nomark _))))) (dss_one (ds_ret de_bl)) dss_nil)
  (dss_cons (ds_set nd rfl (by first | exact .inl rfl | exact .inr rfl) (sum_ G.f_sum (da_cons (de_lc (own := [("_law_a", 16), ("_law_b", 17)]) rfl nd (di_zip (by rfl) G.f_zip (da_cons (vv 5) (da_cons (vv 6) da_nil))) (blkOk_by (by kernel_rfl)) (gd_tup (gsd_cons gd_name (gsd_cons gd_name gsd_nil))) (by decide) (fun _ _ _ _ _ => (pg_tup rfl (pgs_cons (pg_name (i := 16) nd rfl (by first | exact .inl rfl | exact .inr rfl) (by first | exact .inl rfl | exact .inr rfl)) (pgs_cons (pg_name (i := 17) nd rfl (by first | exact .inl rfl | exact .inr rfl) (by first | exact .inl rfl | exact .inr rfl)) pgs_nil)))) (fun _ _ _ _ _ _ => dts_nil) (fun _ _ _ _ _ _ => (de_op op_mulA opd_mul (vv 16) (vv 17)))) da_nil)))
  (dss_cons (ds_if (dt_not (dt_val (de_callN C__law_like (hr.mono (by decide)) tk (by rfl) (da_cons (de_lst (da_cons (de_callN C_value (hr.mono (by decide)) tk (by rfl) (da_cons (vv 8) (da_cons (vv 6) (da_cons (vv 3) da_nil)))) (da_cons (de_callKN C_value (hr.mono (by decide)) tk (by rfl) (n0 := 2) (ks := ["prime"]) (by simp) (da_cons (vv 6) (da_cons (vv 8) da_nil)) (dk_cons (vv 3) dk_nil)) da_nil))) (da_cons (de_op op_mulA opd_mul (de_lst (da_cons (de_op op_mod opd_mod (int_ G.f_int (da_cons (vv 11) da_nil)) (vv 3)) da_nil)) de_int) da_nil))) (by intro _; rfl))) (dss_one (ds_ret de_bl)) dss_nil)
  (dss_cons (ds_par2 rfl nd rfl rfl (by decide) rfl rfl (da_cons (de_callN C_scaled (hr.mono (by decide)) tk (by rfl) (da_cons (vv 8) (da_cons (vv 3) da_nil))) (da_cons (de_callN C__law_lead (hr.mono (by decide)) tk (by rfl) (da_cons (vv 5) da_nil)) da_nil)) (by rfl))
  (dss_cons (ds_if (dw_t (dw_or (dt_not (dt_val (isi_ G.f_isinstance (da_cons (vv 12) (da_cons (ty_tuple G.f_tuple) da_nil))) (by intro _; rfl))) (dw_or (dw_t (dw_and (dt_cmp op_lt opd_cmp (vv 13) de_int (nomark _)) (dw_and1 (dt_cmp (op_neD (unitsOk hr)) opd_ne (vv 12) (vv 5) (nomark _))))) (dw_or1 (dw_t (dw_and (dt_cmp op_ge opd_cmp (vv 13) de_int (nomark _)) (dw_and1 (dt_cmp (op_neD (unitsOk hr)) opd_ne (ix_ (vv 12) (vv 13)) de_int (nomark _))))))))) (dss_one (ds_ret de_bl)) dss_nil)
  (dss_cons (ds_if (dw_t (dw_or (dw_t (dw_and (dt_cmp op_ge opd_cmp (vv 13) de_int (nomark _)) (dw_and1 (dt_cmp (op_neD (unitsOk hr)) opd_ne (de_callN C__law_sum (hr.mono (by decide)) tk (by rfl) (da_cons (vv 3) (da_cons (de_op op_mulA opd_mul (de_tup (da_cons de_int da_nil)) (vv 4)) (da_cons (vv 12) (da_cons (ix_ (vv 5) (vv 13)) da_nil))))) (vv 5) (nomark _))))) (dw_or1 (dt_cmp (op_neD (unitsOk hr)) opd_ne (de_callKN C_scaled (hr.mono (by decide)) tk (by rfl) (n0 := 1) (ks := ["prime"]) (by simp) (da_cons (vv 12) da_nil) (dk_cons (vv 3) dk_nil)) (vv 12) (nomark _))))) (dss_one (ds_ret de_bl)) dss_nil)
  (dss_one (ds_for PassesOwn.leaving rfl (di_range2 (by rfl) G.f_range (da_cons de_int (da_cons (vv 3) da_nil))) (pg_name (i := 14) nd rfl (by first | exact .inl rfl | exact .inr rfl) (by first | exact .inl rfl | exact .inr rfl)) gd_name (dss_cons (ds_set nd rfl (by first | exact .inl rfl | exact .inr rfl) (de_callN C_inverse (hr.mono (by decide)) tk (by rfl) (da_cons (vv 14) (da_cons (vv 3) da_nil))))
  (dss_one (ds_if (dt_not (dt_val (de_callN C__law_like (hr.mono (by decide)) tk (by rfl) (da_cons (de_lst (da_cons (de_chain op_lt opd_cmp op_lt opd_cmp de_int (vv 15) (vv 3) (by rfl)) (da_cons (de_op op_mod opd_mod (int_ G.f_int (da_cons (de_op op_mulA opd_mul (vv 14) (vv 15)) da_nil)) (vv 3)) da_nil))) (da_cons (de_lst (da_cons de_bl (da_cons de_int da_nil))) da_nil))) (by intro _; rfl))) (dss_one (ds_ret de_bl)) dss_nil)))))))))))))))))
  (dss_one (ds_ret de_bl))))
end
/-! ### the head -/
def dd__law_source : He.DefD := ⟨("_law_source", none), "_law_source", "_law_source", defArgs s__law_source, defBody s__law_source, defScope s__law_source, [], []⟩
def dd__law_draw : He.DefD := ⟨("_law_draw", none), "_law_draw", "_law_draw", defArgs s__law_draw, defBody s__law_draw, defScope s__law_draw, [], []⟩
def dd__law_of : He.DefD := ⟨("_law_of", none), "_law_of", "_law_of", defArgs s__law_of, defBody s__law_of, defScope s__law_of, [], []⟩
def dd__law_sizes : He.DefD := ⟨("_law_sizes", none), "_law_sizes", "_law_sizes", defArgs s__law_sizes, defBody s__law_sizes, defScope s__law_sizes, [], []⟩
def dd__law_row : He.DefD := ⟨("_law_row", none), "_law_row", "_law_row", defArgs s__law_row, defBody s__law_row, defScope s__law_row, [], []⟩
def dd_added : He.DefD := ⟨("added", none), "added", "added", defArgs s_added, defBody s_added, defScope s_added, [], []⟩
def dd_multiplied : He.DefD := ⟨("multiplied", none), "multiplied", "multiplied", defArgs s_multiplied, defBody s_multiplied, defScope s_multiplied, [], []⟩
def dd__law_sum : He.DefD := ⟨("_law_sum", none), "_law_sum", "_law_sum", defArgs s__law_sum, defBody s__law_sum, defScope s__law_sum, [], []⟩
def dd__law_like : He.DefD := ⟨("_law_like", none), "_law_like", "_law_like", defArgs s__law_like, defBody s__law_like, defScope s__law_like, [], []⟩
def dd_leading_place : He.DefD := ⟨("leading_place", none), "leading_place", "leading_place", defArgs s_leading_place, defBody s_leading_place, defScope s_leading_place, [], []⟩
def dd_inverse : He.DefD := ⟨("inverse", none), "inverse", "inverse", defArgs s_inverse, defBody s_inverse, defScope s_inverse, [], []⟩
def dd_scaled : He.DefD := ⟨("scaled", none), "scaled", "scaled", defArgs s_scaled, defBody s_scaled, defScope s_scaled, [], []⟩
def dd__law_lead : He.DefD := ⟨("_law_lead", none), "_law_lead", "_law_lead", defArgs s__law_lead, defBody s__law_lead, defScope s__law_lead, [], []⟩
def dd_value : He.DefD := ⟨("value", none), "value", "value", defArgs s_value, defBody s_value, defScope s_value, [], []⟩
def dd_law : He.DefD := ⟨("law", none), "law", "law", defArgs s_law, defBody s_law, defScope s_law, [], []⟩
def hfn0 : List He.DefD := [dd__law_source, dd__law_draw, dd__law_of, dd__law_sizes, dd__law_row, dd_added, dd_multiplied, dd__law_sum, dd__law_like, dd_leading_place, dd_inverse, dd_scaled]
def hfn1 : List He.DefD := [dd__law_lead, dd_value, dd_law]
abbrev hfn : List He.DefD := hfn0 ++ hfn1
def hfa0 : List He.Fa := [.glo "_law_source", .glo "_law_draw", .glo "_law_of", .glo "_law_sizes", .glo "_law_row", .glo "added", .glo "multiplied", .glo "_law_sum", .glo "_law_like", .glo "leading_place", .glo "inverse", .glo "scaled"]
def hfa1 : List He.Fa := [.glo "_law_lead", .glo "value", .glo "law", .free "all", .free "bool", .free "enumerate", .free "int", .free "isinstance", .free "len", .free "list", .free "range", .free "str"]
def hfa2 : List He.Fa := [.free "sum", .free "tuple", .free "zip"]
abbrev hfa : List He.Fa := hfa0 ++ hfa1 ++ hfa2
def hnm0 : List PySem.Str := ["inverse", "added", "multiplied", "leading_place", "scaled", "value", "_law_source", "_law_like", "_law_draw", "_law_of", "_law_sizes", "_law_row"]
def hnm1 : List PySem.Str := ["_law_sum", "_law_lead"]
abbrev hnm : List PySem.Str := hnm0 ++ hnm1
abbrev R : PySem.W.OpenRow := PySem.W.OpenLaw.row PySem.Challenge.rw_mendcalls_k03_sums_multiples_and_values
abbrev hk : PySem.W.Hook := He.hookD 4 hfa hfn
def ob (s : PySem.W.SharedT) : He.AlD := He.obsDG 4 hfa hfn (HandSHeadRun.getT s)
theorem ob_eq (s : PySem.W.SharedT) : ob s = hk.obs s.abs := He.obsDG_eq (HandSHeadRun.getT_eq s)
theorem run (w : World) : HandSHeadRun.RunEq R (PySem.W.view R.prog [16]) hk ob 3000 hnm w := by
  intro os
  kernel_rfl
theorem gs_of {K : PySem.W.Frag} {h : Heap} {mg : Str → Option Value} (X : K.In h) (G : h.Ns mainGlobals mg) (c : He.SaysD hfa hfn K) : GS K mg where
  f_all := He.free_ok X G (c.fact 15 (f := .free "all") rfl)
  f_bool := He.free_ok X G (c.fact 16 (f := .free "bool") rfl)
  f_enumerate := He.free_ok X G (c.fact 17 (f := .free "enumerate") rfl)
  f_int := He.free_ok X G (c.fact 18 (f := .free "int") rfl)
  f_isinstance := He.free_ok X G (c.fact 19 (f := .free "isinstance") rfl)
  f_len := He.free_ok X G (c.fact 20 (f := .free "len") rfl)
  f_list := He.free_ok X G (c.fact 21 (f := .free "list") rfl)
  f_range := He.free_ok X G (c.fact 22 (f := .free "range") rfl)
  f_str := He.free_ok X G (c.fact 23 (f := .free "str") rfl)
  f_sum := He.free_ok X G (c.fact 24 (f := .free "sum") rfl)
  f_tuple := He.free_ok X G (c.fact 25 (f := .free "tuple") rfl)
  f_zip := He.free_ok X G (c.fact 26 (f := .free "zip") rfl)
  d__law_source := by
    obtain ⟨fd, F⟩ := c.def_ 0 (d := dd__law_source) rfl
    exact ⟨_, fd, He.glo_ok X G (c.fact 0 (f := .glo "_law_source") rfl), F⟩
  d__law_draw := by
    obtain ⟨fd, F⟩ := c.def_ 1 (d := dd__law_draw) rfl
    exact ⟨_, fd, He.glo_ok X G (c.fact 1 (f := .glo "_law_draw") rfl), F⟩
  d__law_of := by
    obtain ⟨fd, F⟩ := c.def_ 2 (d := dd__law_of) rfl
    exact ⟨_, fd, He.glo_ok X G (c.fact 2 (f := .glo "_law_of") rfl), F⟩
  d__law_sizes := by
    obtain ⟨fd, F⟩ := c.def_ 3 (d := dd__law_sizes) rfl
    exact ⟨_, fd, He.glo_ok X G (c.fact 3 (f := .glo "_law_sizes") rfl), F⟩
  d__law_row := by
    obtain ⟨fd, F⟩ := c.def_ 4 (d := dd__law_row) rfl
    exact ⟨_, fd, He.glo_ok X G (c.fact 4 (f := .glo "_law_row") rfl), F⟩
  d_added := by
    obtain ⟨fd, F⟩ := c.def_ 5 (d := dd_added) rfl
    exact ⟨_, fd, He.glo_ok X G (c.fact 5 (f := .glo "added") rfl), F⟩
  d_multiplied := by
    obtain ⟨fd, F⟩ := c.def_ 6 (d := dd_multiplied) rfl
    exact ⟨_, fd, He.glo_ok X G (c.fact 6 (f := .glo "multiplied") rfl), F⟩
  d__law_sum := by
    obtain ⟨fd, F⟩ := c.def_ 7 (d := dd__law_sum) rfl
    exact ⟨_, fd, He.glo_ok X G (c.fact 7 (f := .glo "_law_sum") rfl), F⟩
  d__law_like := by
    obtain ⟨fd, F⟩ := c.def_ 8 (d := dd__law_like) rfl
    exact ⟨_, fd, He.glo_ok X G (c.fact 8 (f := .glo "_law_like") rfl), F⟩
  d_leading_place := by
    obtain ⟨fd, F⟩ := c.def_ 9 (d := dd_leading_place) rfl
    exact ⟨_, fd, He.glo_ok X G (c.fact 9 (f := .glo "leading_place") rfl), F⟩
  d_inverse := by
    obtain ⟨fd, F⟩ := c.def_ 10 (d := dd_inverse) rfl
    exact ⟨_, fd, He.glo_ok X G (c.fact 10 (f := .glo "inverse") rfl), F⟩
  d_scaled := by
    obtain ⟨fd, F⟩ := c.def_ 11 (d := dd_scaled) rfl
    exact ⟨_, fd, He.glo_ok X G (c.fact 11 (f := .glo "scaled") rfl), F⟩
  d__law_lead := by
    obtain ⟨fd, F⟩ := c.def_ 12 (d := dd__law_lead) rfl
    exact ⟨_, fd, He.glo_ok X G (c.fact 12 (f := .glo "_law_lead") rfl), F⟩
  d_value := by
    obtain ⟨fd, F⟩ := c.def_ 13 (d := dd_value) rfl
    exact ⟨_, fd, He.glo_ok X G (c.fact 13 (f := .glo "value") rfl), F⟩
  d_law := by
    obtain ⟨fd, F⟩ := c.def_ 14 (d := dd_law) rfl
    exact ⟨_, fd, He.glo_ok X G (c.fact 14 (f := .glo "law") rfl), F⟩
theorem facts {P : Program} {w : World} {K : PySem.W.Frag} {h : Heap} {mg : Str → Option Value} {f : Addr} (X : K.In h) (G : h.Ns mainGlobals mg) (hfa0 : mg ("law" : Str) = some (.ref f)) (c : He.SaysD hfa hfn K) :
    ∃ fd : FuncData, (∀ (s : Shared) (v : Value), BindsTo s fd ⟨[v], []⟩ [("_law_script", v)]) ∧ ∀ base : Heap, K.In base → base.Ns mainGlobals mg → FnOk P w K mg base CX0 13 f fd ["_law_script"] (fun vs H Q _ => spD ⟨K, mg⟩ 1 m_law vs H Q fun _ _ _ => False) := by
  obtain ⟨fd, F⟩ := c.def_ 14 (d := dd_law) rfl
  have e := hfa0.symm.trans (He.glo_ok X G (c.fact 14 (f := .glo "law") rfl))
  cases e
  have b := FunD.bindsA (ps := ["_law_script"]) F fun _ _ _ _ _ _ us hl => match us, hl with | [_], _ => rfl
  exact ⟨fd, fun s v => b s [v] rfl, fun base _ _ => ok_calm (ok_all (gs_of X G c) F)⟩
/-- what the law comes down to -/
def Pure : Prop := ∀ ns : List Int, ns.length ≤ 63 → ∃ μ : Mu, m_law [.scr (ns.map D.int)] [] = some (.val (.bl true), μ)
end Lw_k03
open PySem PySem.W PySem.Calls PyProof.Rows
theorem Lw_k03.holds (hpure : Lw_k03.Pure) : PySem.Challenge.rw_mendcalls_k03_sums_multiples_and_values.Holds := by
  w_on; o_law
  refine HandSHeadRun.head_any (r := OpenLaw.row PySem.Challenge.rw_mendcalls_k03_sums_multiples_and_values) (q := view (OpenLaw.row PySem.Challenge.rw_mendcalls_k03_sums_multiples_and_values).prog [16]) (H := Lw_k03.hk) (ob := Lw_k03.ob) (M := 3000) (loose := Lw_k03.hnm) (d := HandSHeadRun.topDef (OpenLaw.row PySem.Challenge.rw_mendcalls_k03_sums_multiples_and_values).prog 16) (kwd := []) Lw_k03.ob_eq
    (by kernel_rfl) (fun s => by kernel_rfl) Lw_k03.run (by kernel_rfl) (by kernel_rfl) (by kernel_rfl) (by rfl) (by first | assumption | decide +kernel) (by decide +kernel) ⟨rfl, rfl, rfl, rfl, rfl, by decide +kernel⟩ ?hw ?hc
  case hw => w_witness2
  case hc =>
    refine L2.walk_ofE (l := PySem.Challenge.rw_mendcalls_k03_sums_multiples_and_values) (n := 63) (k := 13) (x := "_law_script") (CX := L2.CX0) rfl (by decide) (by kernel_rfl) ⟨rfl, by decide, by decide⟩ ?F (fun _ _ _ _ z => z)
    intro w mg fa h Y G hmg0
    obtain ⟨K, KX, c⟩ := Y
    have hmg : mg ("law" : PySem.Str) = some (.ref fa) := by
      have e : (HandSHeadRun.topDef (OpenLaw.row PySem.Challenge.rw_mendcalls_k03_sums_multiples_and_values).prog 16).name = ("law" : PySem.Str) := by kernel_rfl
      rw [← e]
      exact hmg0
    obtain ⟨fd, hb, hF⟩ := Lw_k03.facts (P := (PySem.Challenge.rw_mendcalls_k03_sums_multiples_and_values).prog) (w := w) KX G hmg c
    refine ⟨K, fd, _, KX, hb, fun H a ns hl _ hS => ?_, hF⟩
    obtain ⟨μ, hm⟩ := hpure ns hl
    exact Dv.sp_start hm hl hS


namespace Lw_k03
open PySem PySem.Spec PyProof.Rows L2 Dv
theorem sizes_ok (s : Src) (hs : OkS s) : ∃ p n s', m__law_sizes [.obj 0] [.src s] = some (.val (.tup [.int p, .int n]), [.src s']) ∧ Prm p ∧ 1 ≤ n ∧ n ≤ 6 ∧ OkS s' := by
  obtain ⟨d, s', hd, e, ho⟩ := of_ok s [.tup [.int 2, .int 1], .tup [.int 2, .int 2], .tup [.int 2, .int 3], .tup [.int 2, .int 3], .tup [.int 2, .int 4], .tup [.int 2, .int 6], .tup [.int 3, .int 1], .tup [.int 3, .int 2], .tup [.int 3, .int 3], .tup [.int 5, .int 2], .tup [.int 7, .int 1], .tup [.int 7, .int 2]] hs (by decide) (by decide)
    (fun d hd => by simp only [List.mem_cons, List.not_mem_nil, or_false] at hd; rcases hd with rfl | rfl | rfl | rfl | rfl | rfl | rfl | rfl | rfl | rfl | rfl | rfl <;> rfl)
    (fun d hd => by simp only [List.mem_cons, List.not_mem_nil, or_false] at hd; rcases hd with rfl | rfl | rfl | rfl | rfl | rfl | rfl | rfl | rfl | rfl | rfl | rfl <;> rfl)
  have h : ∃ p n, d = .tup [.int p, .int n] ∧ Prm p ∧ 1 ≤ n ∧ n ≤ 6 := by
    simp only [List.mem_cons, List.not_mem_nil, or_false] at hd
    rcases hd with rfl | rfl | rfl | rfl | rfl | rfl | rfl | rfl | rfl | rfl | rfl | rfl
    all_goals exact ⟨_, _, rfl, ⟨by decide⟩, by decide, by decide⟩
  obtain ⟨p, n, rfl, hp, h1, h2⟩ := h
  refine ⟨p, n, s', def_ret (env := [.v (.obj 0), .v (.lst [.tup [.int 2, .int 1], .tup [.int 2, .int 2], .tup [.int 2, .int 3], .tup [.int 2, .int 3], .tup [.int 2, .int 4], .tup [.int 2, .int 6], .tup [.int 3, .int 1], .tup [.int 3, .int 2], .tup [.int 3, .int 3], .tup [.int 5, .int 2], .tup [.int 7, .int 1], .tup [.int 7, .int 2]])]) ?_ rfl, hp, h1, h2, ho⟩
  refine seq_nx (env' := [.v (.obj 0), .v (.lst [.tup [.int 2, .int 1], .tup [.int 2, .int 2], .tup [.int 2, .int 3], .tup [.int 2, .int 3], .tup [.int 2, .int 4], .tup [.int 2, .int 6], .tup [.int 3, .int 1], .tup [.int 3, .int 2], .tup [.int 3, .int 3], .tup [.int 5, .int 2], .tup [.int 7, .int 1], .tup [.int 7, .int 2]])]) (μ' := [.src s]) rfl ?_
  simp (decide := true) only [dSeq, dIfS, dRet, dSkip, dAsg, tName, unbor, bindS, dTest, fTest, dBin, dC, dVar, dNotT, dAndT, dOrT, dAndV, dOrV, dIf, bindR, Dv.ret, hold_new, hold_int, hold_bl, hold_tup, hold_lst, hold_obj, hold_str, hold_non, hold_ty, hold_bor, dCall, dCons, dNil, dIter, fIter, dArg, nobor_new, nobor_int, nobor_bl, nobor_tup, nobor_lst, nobor_obj, nobor_str, nobor_non, nobor_ty, Bool.and_self, and_self, if_true, if_false, Bool.false_eq_true, Bool.not_true, Bool.not_false, List.all_cons, List.all_nil, List.length_cons, List.length_nil, Nat.zero_add, Nat.reduceAdd, List.getElem?_cons_zero, List.getElem?_cons_succ, List.set_cons_zero, List.set_cons_succ, fCall, decide_true, decide_false, e]
theorem mul_emr (x z p : Int) : x * (z % p) % p = x * z % p := by
  rw [Int.mul_emod, Int.emod_emod, ← Int.mul_emod]
theorem back_ {x b y p : Int} (h : x * b % p = 1) (h0 : 0 ≤ y) (h1 : y < p) : x * (y * b % p) % p = y := by
  rw [mul_emr]
  have e : x * (y * b) = y * (x * b) := by rw [← Int.mul_assoc, Int.mul_comm x y, Int.mul_assoc]
  rw [e, ← mul_emr, h, Int.mul_one]
  exact Int.emod_eq_of_lt h0 h1
theorem scaled_facts {p : Int} {a : List Int} {X : D} {μ : Mu} (hp : Prm p) (ha : ∀ x ∈ a, 0 ≤ x ∧ x < p) (hX : seqD X = some (intsD a)) :
    ∃ lt : List Int, mScaled [X, .int p] μ = some (.val (tupI lt), μ) ∧ mScaled [tupI lt, .int p] μ = some (.val (tupI lt), μ) ∧ lt.length = a.length ∧ (∀ y ∈ lt, 0 ≤ y ∧ y < p) ∧ (¬ leadN a < a.length → lt = a) ∧
      (leadN a < a.length → ∃ x, a[leadN a]? = some x ∧ lt[leadN a]? = some 1 ∧ 0 < x ∧ x < p ∧ lt.map (fun y => x * y % p) = a) := by
  have p0 : 0 < p := by rcases hp.is with h | h | h | h <;> omega
  have p1 : p ≤ 7 := by rcases hp.is with h | h | h | h <;> omega
  have hle := leadN_le a
  by_cases hl : leadN a < a.length
  · obtain ⟨x, hx, hn⟩ := leadN_ne hl
    have hxa := ha x (List.mem_of_getElem? hx)
    have x0 : 0 < x := by omega
    obtain ⟨b, hb, b0, b1, hxb, _⟩ := inverse_ok (μ := μ) hp x0 hxa.2
    obtain ⟨c, hc, c0, c1, _, hc1⟩ := inverse_ok (μ := μ) hp (a := 1) (by decide) (by rcases hp.is with h | h | h | h <;> omega)
    have ec := hc1 rfl
    subst ec
    have h1 : (a.map fun y => y * b % p)[leadN a]? = some 1 := by
      rw [List.getElem?_map, hx]; simp [hxb]
    have hr : ∀ y ∈ a.map (fun y => y * b % p), 0 ≤ y ∧ y < p := fun y hy => by
      obtain ⟨z, _, rfl⟩ := List.mem_map.mp hy
      exact ⟨Int.emod_nonneg _ (by omega), Int.emod_lt_of_pos _ p0⟩
    have hb2 : (a.map fun y => y * b % p).map (fun y => x * y % p) = a := by
      rw [List.map_map]
      refine (List.map_congr_left fun y hy => ?_).trans (List.map_id _)
      exact back_ hxb (ha y hy).1 (ha y hy).2
    have hlead : leadN (a.map fun y => y * b % p) = leadN a := leadN_map _ _ fun y hy => ⟨fun h => by
      have e := back_ hxb (ha y hy).1 (ha y hy).2
      rw [h, Int.mul_zero, Int.zero_emod] at e
      exact e.symm, fun h => by rw [h, Int.zero_mul, Int.zero_emod]⟩
    refine ⟨a.map fun y => y * b % p, scaled1 hX p0 hl hx hb b0 (by omega), ?_, by simp, hr, fun h => absurd hl h, fun _ => ⟨x, hx, h1, x0, hxa.2, hb2⟩⟩
    have e2 := scaled1 (X := tupI (a.map fun y => y * b % p)) (μ := μ) rfl p0 (by rw [hlead, List.length_map]; exact hl) (by rw [hlead]; exact h1) hc c0 (by decide)
    have e3 : ((a.map fun y => y * b % p).map fun y => y * 1 % p) = a.map fun y => y * b % p := by
      refine (List.map_congr_left fun y hy => ?_).trans (List.map_id _)
      rw [Int.mul_one]; exact Int.emod_eq_of_lt (hr y hy).1 (hr y hy).2
    rw [e3] at e2
    exact e2
  · have h : leadN a = a.length := by omega
    exact ⟨a, scaled0 hX h, scaled0 rfl h, rfl, ha, fun _ => rfl, fun h => absurd h hl⟩
theorem zip_comm_mul : ∀ a b : List Int, (b.zip a).map (fun q => q.1 * q.2) = (a.zip b).map fun q => q.1 * q.2
  | [], b => by cases b <;> rfl
  | _ :: _, [] => rfl
  | x :: a, y :: b => by simp [zip_comm_mul a b, Int.mul_comm]
theorem hc_ (a b : List Int) (u4 : Src) (bb : ∀ x ∈ b, 0 ≤ x ∧ x < 1000000) : ∀ x0 x1 x2 x3 x4 x5 x6 x7 x8 x9 x10 x11 x12 x13 x14 x15 : SV, x5 = .v (tupI a) → x6 = .v (tupI b) → dLc (dArg fZip (dCons (dVar 5) (dCons (dVar 6) dNil))) [16, 17] (Dv.tTup 2 (tsCons (tName 16) (tsCons (tName 17) tsNil))) dYes (dBin fMul (dVar 16) (dVar 17)) [x0, x1, x2, x3, x4, x5, x6, x7, x8, x9, x10, x11, x12, x13, x14, x15, .no, .no] [.src u4] = some (.val (.new (intsD ((a.zip b).map fun q => q.1 * q.2))), [.src u4]) := by
    intro x0 x1 x2 x3 x4 x5 x6 x7 x8 x9 x10 x11 x12 x13 x14 x15 h5 h6
    subst h5 h6
    have h := dLc_of (it := dArg fZip (dCons (dVar 5) (dCons (dVar 6) dNil))) (own := [16, 17]) (env := [x0, x1, x2, x3, x4, .v (tupI a), .v (tupI b), x7, x8, x9, x10, x11, x12, x13, x14, x15, .no, .no]) (μ := [.src u4]) rfl (by
      simp (decide := true) only [dSeq, dIfS, dRet, dSkip, dAsg, tName, unbor, bindS, dTest, fTest, dBin, dC, dVar, dNotT, dAndT, dOrT, dAndV, dOrV, dIf, bindR, Dv.ret, hold_new, hold_int, hold_bl, hold_tup, hold_lst, hold_obj, hold_str, hold_non, hold_ty, hold_bor, dCall, dCons, dNil, dIter, fIter, dArg, nobor_new, nobor_int, nobor_bl, nobor_tup, nobor_lst, nobor_obj, nobor_str, nobor_non, nobor_ty, Bool.and_self, and_self, if_true, if_false, Bool.false_eq_true, Bool.not_true, Bool.not_false, List.all_cons, List.all_nil, List.length_cons, List.length_nil, Nat.zero_add, Nat.reduceAdd, List.getElem?_cons_zero, List.getElem?_cons_succ, List.set_cons_zero, List.set_cons_succ, decide_true, decide_false, fzip_ (X := tupI a) (Y := tupI b) rfl rfl]) (lc_map (fun q : Int × Int => pairD (.int q.1) (.int q.2)) (fun q => .int (q.1 * q.2)) (a.zip b) (tt := dYes) (tg := Dv.tTup 2 (tsCons (tName 16) (tsCons (tName 17) tsNil))) (el := dBin fMul (dVar 16) (dVar 17)) (μ := [.src u4]) (fun q hq => by
        have hy := bb _ (List.of_mem_zip hq).2
        refine ⟨[x0, x1, x2, x3, x4, .v (tupI a), .v (tupI b), x7, x8, x9, x10, x11, x12, x13, x14, x15, .v (.int q.1), .v (.int q.2)], rfl, rfl, ?_, rfl⟩
        simp (decide := true) only [dSeq, dIfS, dRet, dSkip, dAsg, tName, unbor, bindS, dTest, fTest, dBin, dC, dVar, dNotT, dAndT, dOrT, dAndV, dOrV, dIf, bindR, Dv.ret, hold_new, hold_int, hold_bl, hold_tup, hold_lst, hold_obj, hold_str, hold_non, hold_ty, hold_bor, dCall, dCons, dNil, dIter, fIter, dArg, nobor_new, nobor_int, nobor_bl, nobor_tup, nobor_lst, nobor_obj, nobor_str, nobor_non, nobor_ty, Bool.and_self, and_self, if_true, if_false, Bool.false_eq_true, Bool.not_true, Bool.not_false, List.all_cons, List.all_nil, List.length_cons, List.length_nil, Nat.zero_add, Nat.reduceAdd, List.getElem?_cons_zero, List.getElem?_cons_succ, List.set_cons_zero, List.set_cons_succ, decide_true, decide_false, fmul_int _ q.2 _ (by omega)]))
    rw [h]
    simp only [intsD, List.map_map, Function.comp_def, hold_int]
theorem loop_ (p : Int) (hp : Prm p) (p0 : 0 < p) (p1 : p ≤ 7) (u4 : Src) : ∀ x0 x1 x2 x4 x5 x6 x7 x8 x9 x10 x11 x12 x13 x14 x15 : SV, ∃ t14 t15, (dFor (dArg fRange2 (dCons (dC (.int 1)) (dCons (dVar 3) dNil))) (tName 14) (dSeq (dAsg (dCall (fCall 2 mInverse) (dCons (dVar 14) (dCons (dVar 3) dNil))) (tName 15))
  (dIfS (dNotT (dTest (dCall (fCall 2 (mLike 12)) (dCons (dLst (dCons (dChain (fCmp fun i j => decide (i < j)) (fCmp fun i j => decide (i < j)) (dC (.int 0)) (dVar 15) (dVar 3)) (dCons (dBin fMod (dCall fInt (dCons (dBin fMul (dVar 14) (dVar 15)) dNil)) (dVar 3)) dNil))) (dCons (dLst (dCons (dC (.bl true)) (dCons (dC (.int 1)) dNil))) dNil))))) (dRet (dC (.bl false))) dSkip))) [x0, x1, x2, .v (.int p), x4, x5, x6, x7, x8, x9, x10, x11, x12, x13, x14, x15, .no, .no] [.src u4] = some (.val .nx, [x0, x1, x2, .v (.int p), x4, x5, x6, x7, x8, x9, x10, x11, x12, x13, t14, t15, .no, .no], [.src u4]) := by
    intro x0 x1 x2 x4 x5 x6 x7 x8 x9 x10 x11 x12 x13 x14 x15
    obtain ⟨env', μ', e, t14, t15, rfl, rfl⟩ := for_nx (tg := tName 14) (body := (dSeq (dAsg (dCall (fCall 2 mInverse) (dCons (dVar 14) (dCons (dVar 3) dNil))) (tName 15))
  (dIfS (dNotT (dTest (dCall (fCall 2 (mLike 12)) (dCons (dLst (dCons (dChain (fCmp fun i j => decide (i < j)) (fCmp fun i j => decide (i < j)) (dC (.int 0)) (dVar 15) (dVar 3)) (dCons (dBin fMod (dCall fInt (dCons (dBin fMul (dVar 14) (dVar 15)) dNil)) (dVar 3)) dNil))) (dCons (dLst (dCons (dC (.bl true)) (dCons (dC (.int 1)) dNil))) dNil))))) (dRet (dC (.bl false))) dSkip))) (fun env μ => ∃ t14 t15, env = [x0, x1, x2, .v (.int p), x4, x5, x6, x7, x8, x9, x10, x11, x12, x13, t14, t15, .no, .no] ∧ μ = [.src u4]) (rangeD 1 p) (fun d hd env μ ⟨t14, t15, h1, h2⟩ => by
      subst h1 h2
      obtain ⟨i, rfl, i0, i1⟩ := mem_rangeD hd
      obtain ⟨c, ec, c0, c1, c2, _⟩ := inverse_ok (μ := [.src u4]) hp (a := i) (by omega) i1
      refine ⟨[x0, x1, x2, .v (.int p), x4, x5, x6, x7, x8, x9, x10, x11, x12, x13, .v (.int i), t15, .no, .no], [x0, x1, x2, .v (.int p), x4, x5, x6, x7, x8, x9, x10, x11, x12, x13, .v (.int i), .v (.int c), .no, .no], [.src u4], rfl, ?_, _, _, rfl, rfl⟩
      have lk3 : mLike 12 [.lst [.bl true, .int 1], .lst [.bl true, .int 1]] [.src u4] = some (.val (.bl true), [.src u4]) := like_refl 11 _ rfl
      simp (decide := true) only [dSeq, dIfS, dRet, dSkip, dAsg, tName, unbor, bindS, dTest, fTest, dBin, dC, dVar, dNotT, dAndT, dOrT, dAndV, dOrV, dIf, bindR, Dv.ret, hold_new, hold_int, hold_bl, hold_tup, hold_lst, hold_obj, hold_str, hold_non, hold_ty, hold_bor, dCall, dCons, dNil, dIter, fIter, dArg, nobor_new, nobor_int, nobor_bl, nobor_tup, nobor_lst, nobor_obj, nobor_str, nobor_non, nobor_ty, Bool.and_self, and_self, if_true, if_false, Bool.false_eq_true, Bool.not_true, Bool.not_false, List.all_cons, List.all_nil, List.length_cons, List.length_nil, Nat.zero_add, Nat.reduceAdd, List.getElem?_cons_zero, List.getElem?_cons_succ, List.set_cons_zero, List.set_cons_succ, decide_true, decide_false, call_ (n := 2) ec, dChain, fCmp, c0, c1, fInt, dLst, fLst, fmul_int _ c _ (by omega), fmod_int _ p _ p0, c2, call_ (n := 2) lk3]) [x0, x1, x2, .v (.int p), x4, x5, x6, x7, x8, x9, x10, x11, x12, x13, x14, x15, .no, .no] [.src u4] ⟨_, _, rfl, rfl⟩
    refine ⟨t14, t15, for_of (ds := rangeD 1 p) (μ1 := [.src u4]) ?_ e⟩
    simp (decide := true) only [dSeq, dIfS, dRet, dSkip, dAsg, tName, unbor, bindS, dTest, fTest, dBin, dC, dVar, dNotT, dAndT, dOrT, dAndV, dOrV, dIf, bindR, Dv.ret, hold_new, hold_int, hold_bl, hold_tup, hold_lst, hold_obj, hold_str, hold_non, hold_ty, hold_bor, dCall, dCons, dNil, dIter, fIter, dArg, nobor_new, nobor_int, nobor_bl, nobor_tup, nobor_lst, nobor_obj, nobor_str, nobor_non, nobor_ty, Bool.and_self, and_self, if_true, if_false, Bool.false_eq_true, Bool.not_true, Bool.not_false, List.all_cons, List.all_nil, List.length_cons, List.length_nil, Nat.zero_add, Nat.reduceAdd, List.getElem?_cons_zero, List.getElem?_cons_succ, List.set_cons_zero, List.set_cons_succ, decide_true, decide_false, range2_ 1 p _ (by decide) (by decide) (by omega) (by omega : p ≤ 16777216)]
theorem turn_ok (s : Src) (hs : OkS s) (scr s2 s3 s4 s5 s6 s7 s8 s9 s10 s11 s12 s13 s14 s15 : SV) : ∃ t2 t3 t4 t5 t6 t7 t8 t9 t10 t11 t12 t13 t14 t15 s',
    (dSeq (dAsg (dCall (fCall 1 m__law_sizes) (dCons (dVar 1) dNil)) (Dv.tTup 2 (tsCons (tName 3) (tsCons (tName 4) tsNil))))
  (dSeq (dPar3 5 6 7 (dCons (dCall (fCall 3 mRow) (dCons (dVar 1) (dCons (dVar 3) (dCons (dVar 4) dNil)))) (dCons (dCall (fCall 3 mRow) (dCons (dVar 1) (dCons (dVar 3) (dCons (dVar 4) dNil)))) (dCons (dCall (fCall 2 mDraw) (dCons (dVar 1) (dCons (dVar 3) dNil))) dNil))))
  (dSeq (dAsg (dCall fList (dCons (dVar 5) dNil)) (tName 8))
  (dSeq (dAsg (dLst (dCons (dCall (fCall 3 mAdded) (dCons (dVar 8) (dCons (dVar 6) (dCons (dVar 3) dNil)))) (dCons (dCall (fCall 3 mMultiplied) (dCons (dVar 8) (dCons (dVar 7) (dCons (dVar 3) dNil)))) (dCons (dCallK (fCall 3 mAdded) 2 1 (dCons (dVar 8) (dCons (dCall fList (dCons (dVar 6) dNil)) dNil)) (dCons (dVar 3) dNil)) dNil)))) (tName 9))
  (dSeq (dAsg (dLst (dCons (dCall (fCall 4 mSum) (dCons (dVar 3) (dCons (dVar 5) (dCons (dVar 6) (dCons (dC (.int 1)) dNil))))) (dCons (dCall (fCall 4 mSum) (dCons (dVar 3) (dCons (dBin fMul (dTup (dCons (dC (.int 0)) dNil)) (dVar 4)) (dCons (dVar 5) (dCons (dVar 7) dNil))))) (dCons (dCall (fCall 4 mSum) (dCons (dVar 3) (dCons (dVar 5) (dCons (dVar 6) (dCons (dC (.int 1)) dNil))))) dNil)))) (tName 10))
  (dSeq (dIfS (dOrT (dNotT (dTest (dCall (fCall 2 (mLike 12)) (dCons (dVar 9) (dCons (dVar 10) dNil))))) (dTest (dBin fNe (dVar 8) (dCall fList (dCons (dVar 5) dNil))))) (dRet (dC (.bl false))) dSkip)
  (dSeq (dAsg (dCall fSum (dCons (dLc (dArg fZip (dCons (dVar 5) (dCons (dVar 6) dNil))) [16, 17] (Dv.tTup 2 (tsCons (tName 16) (tsCons (tName 17) tsNil))) dYes (dBin fMul (dVar 16) (dVar 17))) dNil)) (tName 11))
  (dSeq (dIfS (dNotT (dTest (dCall (fCall 2 (mLike 12)) (dCons (dLst (dCons (dCall (fCall 3 mValue) (dCons (dVar 8) (dCons (dVar 6) (dCons (dVar 3) dNil)))) (dCons (dCallK (fCall 3 mValue) 2 1 (dCons (dVar 6) (dCons (dVar 8) dNil)) (dCons (dVar 3) dNil)) dNil))) (dCons (dBin fMul (dLst (dCons (dBin fMod (dCall fInt (dCons (dVar 11) dNil)) (dVar 3)) dNil)) (dC (.int 2))) dNil))))) (dRet (dC (.bl false))) dSkip)
  (dSeq (dPar2 12 13 (dCons (dCall (fCall 2 mScaled) (dCons (dVar 8) (dCons (dVar 3) dNil))) (dCons (dCall (fCall 1 mLead) (dCons (dVar 5) dNil)) dNil)))
  (dSeq (dIfS (dOrT (dNotT (dTest (dCall fIsi (dCons (dVar 12) (dCons (dC (.ty "tuple")) dNil))))) (dOrT (dAndT (dTest (dBin (fCmp fun i j => decide (i < j)) (dVar 13) (dC (.int 0)))) (dTest (dBin fNe (dVar 12) (dVar 5)))) (dAndT (dTest (dBin (fCmp fun i j => decide (j ≤ i)) (dVar 13) (dC (.int 0)))) (dTest (dBin fNe (dBin fIxS (dVar 12) (dVar 13)) (dC (.int 1))))))) (dRet (dC (.bl false))) dSkip)
  (dSeq (dIfS (dOrT (dAndT (dTest (dBin (fCmp fun i j => decide (j ≤ i)) (dVar 13) (dC (.int 0)))) (dTest (dBin fNe (dCall (fCall 4 mSum) (dCons (dVar 3) (dCons (dBin fMul (dTup (dCons (dC (.int 0)) dNil)) (dVar 4)) (dCons (dVar 12) (dCons (dBin fIxS (dVar 5) (dVar 13)) dNil))))) (dVar 5)))) (dTest (dBin fNe (dCallK (fCall 2 mScaled) 1 1 (dCons (dVar 12) dNil) (dCons (dVar 3) dNil)) (dVar 12)))) (dRet (dC (.bl false))) dSkip)
  (dFor (dArg fRange2 (dCons (dC (.int 1)) (dCons (dVar 3) dNil))) (tName 14) (dSeq (dAsg (dCall (fCall 2 mInverse) (dCons (dVar 14) (dCons (dVar 3) dNil))) (tName 15))
  (dIfS (dNotT (dTest (dCall (fCall 2 (mLike 12)) (dCons (dLst (dCons (dChain (fCmp fun i j => decide (i < j)) (fCmp fun i j => decide (i < j)) (dC (.int 0)) (dVar 15) (dVar 3)) (dCons (dBin fMod (dCall fInt (dCons (dBin fMul (dVar 14) (dVar 15)) dNil)) (dVar 3)) dNil))) (dCons (dLst (dCons (dC (.bl true)) (dCons (dC (.int 1)) dNil))) dNil))))) (dRet (dC (.bl false))) dSkip)))))))))))))) [scr, .v (.obj 0), s2, s3, s4, s5, s6, s7, s8, s9, s10, s11, s12, s13, s14, s15, .no, .no] [.src s] = some (.val .nx, [scr, .v (.obj 0), t2, t3, t4, t5, t6, t7, t8, t9, t10, t11, t12, t13, t14, t15, .no, .no], [.src s']) ∧ OkS s' := by
  obtain ⟨p, n, u1, e1, hp, n1, n6, o1⟩ := sizes_ok s hs
  have p0 : 0 < p := by rcases hp.is with h | h | h | h <;> omega
  have p1 : p ≤ 7 := by rcases hp.is with h | h | h | h <;> omega
  obtain ⟨a, u2, e2, la, ha, o2⟩ := row_ok u1 p n o1 p0 (by omega) (by omega) (by omega)
  obtain ⟨b, u3, e3, lb, hb, o3⟩ := row_ok u2 p n o2 p0 (by omega) (by omega) (by omega)
  obtain ⟨f, u4, e4, f0, f1, o4⟩ := draw_ok u3 p o3 p0 (by omega)
  have hn : n.toNat = a.length := by omega
  obtain ⟨lt, q1, q2, q3, q4, q5, q6⟩ := scaled_facts (μ := [.src u4]) (X := lstI a) hp ha rfl
  obtain ⟨L, hL⟩ : ∃ L : Int, L = (if leadN a < a.length then (leadN a : Int) else -1) := ⟨_, rfl⟩
  have eld : mLead [tupI a] [.src u4] = some (.val (.int L), [.src u4]) := by rw [hL]; exact lead_ok (X := tupI a) rfl (by omega : a.length ≤ 1000)
  have hfnd : ((a.zip b).map fun q => (q.1 + 1 * q.2) % p) = (a.zip b).map fun q => (q.1 + q.2) % p := by simp only [Int.one_mul]
  have hmul : (((List.replicate n.toNat 0).zip a).map fun q => (q.1 + f * q.2) % p) = a.map fun x => x * f % p := by
    rw [hn, zip_zeros fun q => (q.1 + f * q.2) % p]
    exact List.map_congr_left fun x _ => by rw [Int.zero_add, Int.mul_comm]
  have hz := zeros_ n [.src u4] n1 (by omega)
  have ba : ∀ x ∈ a, 0 ≤ x ∧ x < 1000000 := fun x hx => ⟨(ha x hx).1, by have := (ha x hx).2; omega⟩
  have bb : ∀ x ∈ b, 0 ≤ x ∧ x < 1000000 := fun x hx => ⟨(hb x hx).1, by have := (hb x hx).2; omega⟩
  have bl : ∀ x ∈ lt, 0 ≤ x ∧ x < 1000000 := fun x hx => ⟨(q4 x hx).1, by have := (q4 x hx).2; omega⟩
  have fnd : D.lst [tupI ((a.zip b).map fun q => (q.1 + q.2) % p), tupI (a.map fun x => x * f % p), tupI ((a.zip b).map fun q => (q.1 + q.2) % p)] = D.lst [tupI ((a.zip b).map fun q => (q.1 + q.2) % p), tupI (a.map fun x => x * f % p), tupI ((a.zip b).map fun q => (q.1 + q.2) % p)] := rfl
  have lk1 : mLike 12 [.lst [tupI ((a.zip b).map fun q => (q.1 + q.2) % p), tupI (a.map fun x => x * f % p), tupI ((a.zip b).map fun q => (q.1 + q.2) % p)], .lst [tupI ((a.zip b).map fun q => (q.1 + q.2) % p), tupI (a.map fun x => x * f % p), tupI ((a.zip b).map fun q => (q.1 + q.2) % p)]] [.src u4] = some (.val (.bl true), [.src u4]) := by
    refine like_refl 11 _ ?_
    unfold lkD
    simp only [List.all_cons, List.all_nil, lk_tupI, Bool.and_self]
  have zc : ((b.zip a).map fun q => q.1 * q.2).sum = ((a.zip b).map fun q => q.1 * q.2).sum := by
    rw [zip_comm_mul]
  have lk2 : ∀ t : Int, mLike 12 [.lst [.int t, .int t], .lst [.int t, .int t]] [.src u4] = some (.val (.bl true), [.src u4]) := fun t => like_refl 11 _ (by unfold lkD; simp only [List.all_cons, List.all_nil, lk_int, Bool.and_self])
  obtain ⟨t14, t15, eloop⟩ := loop_ p hp p0 p1 u4 scr (.v (.obj 0)) s2 (.v (.int n)) (.v (tupI a)) (.v (tupI b)) (.v (.int f)) (.v (lstI a)) (.v (.lst [tupI ((a.zip b).map fun q => (q.1 + q.2) % p), tupI (a.map fun x => x * f % p), tupI ((a.zip b).map fun q => (q.1 + q.2) % p)])) (.v (.lst [tupI ((a.zip b).map fun q => (q.1 + q.2) % p), tupI (a.map fun x => x * f % p), tupI ((a.zip b).map fun q => (q.1 + q.2) % p)])) (.v (.int ((a.zip b).map fun q => q.1 * q.2).sum)) (.v (tupI lt)) (.v (.int L)) s14 s15
  refine ⟨s2, .v (.int p), .v (.int n), .v (tupI a), .v (tupI b), .v (.int f), .v (lstI a), .v (.lst [tupI ((a.zip b).map fun q => (q.1 + q.2) % p), tupI (a.map fun x => x * f % p), tupI ((a.zip b).map fun q => (q.1 + q.2) % p)]), .v (.lst [tupI ((a.zip b).map fun q => (q.1 + q.2) % p), tupI (a.map fun x => x * f % p), tupI ((a.zip b).map fun q => (q.1 + q.2) % p)]), .v (.int ((a.zip b).map fun q => q.1 * q.2).sum), .v (tupI lt), .v (.int L), t14, t15, u4, ?_, o4⟩
  refine seq_nx (env' := [scr, .v (.obj 0), s2, .v (.int p), .v (.int n), s5, s6, s7, s8, s9, s10, s11, s12, s13, s14, s15, .no, .no]) (μ' := [.src u1]) (by simp (decide := true) only [dSeq, dIfS, dRet, dSkip, dAsg, tName, unbor, bindS, dTest, fTest, dBin, dC, dVar, dNotT, dAndT, dOrT, dAndV, dOrV, dIf, bindR, Dv.ret, hold_new, hold_int, hold_bl, hold_tup, hold_lst, hold_obj, hold_str, hold_non, hold_ty, hold_bor, dCall, dCons, dNil, dIter, fIter, dArg, nobor_new, nobor_int, nobor_bl, nobor_tup, nobor_lst, nobor_obj, nobor_str, nobor_non, nobor_ty, Bool.and_self, and_self, if_true, if_false, Bool.false_eq_true, Bool.not_true, Bool.not_false, List.all_cons, List.all_nil, List.length_cons, List.length_nil, Nat.zero_add, Nat.reduceAdd, List.getElem?_cons_zero, List.getElem?_cons_succ, List.set_cons_zero, List.set_cons_succ, decide_true, decide_false, call_ (n := 1) e1, Dv.tTup, tsCons, tsNil]) ?_
  refine seq_nx (env' := [scr, .v (.obj 0), s2, .v (.int p), .v (.int n), .v (tupI a), .v (tupI b), .v (.int f), s8, s9, s10, s11, s12, s13, s14, s15, .no, .no]) (μ' := [.src u4]) (by simp (decide := true) only [dPar3, dSeq, dIfS, dRet, dSkip, dAsg, tName, unbor, bindS, dTest, fTest, dBin, dC, dVar, dNotT, dAndT, dOrT, dAndV, dOrV, dIf, bindR, Dv.ret, hold_new, hold_int, hold_bl, hold_tup, hold_lst, hold_obj, hold_str, hold_non, hold_ty, hold_bor, dCall, dCons, dNil, dIter, fIter, dArg, nobor_new, nobor_int, nobor_bl, nobor_tup, nobor_lst, nobor_obj, nobor_str, nobor_non, nobor_ty, Bool.and_self, and_self, if_true, if_false, Bool.false_eq_true, Bool.not_true, Bool.not_false, List.all_cons, List.all_nil, List.length_cons, List.length_nil, Nat.zero_add, Nat.reduceAdd, List.getElem?_cons_zero, List.getElem?_cons_succ, List.set_cons_zero, List.set_cons_succ, decide_true, decide_false, call_ (n := 3) e2, call_ (n := 3) e3, call_ (n := 2) e4]) ?_
  refine seq_nx (env' := [scr, .v (.obj 0), s2, .v (.int p), .v (.int n), .v (tupI a), .v (tupI b), .v (.int f), .v (lstI a), s9, s10, s11, s12, s13, s14, s15, .no, .no]) (μ' := [.src u4]) (by simp (decide := true) only [dSeq, dIfS, dRet, dSkip, dAsg, tName, unbor, bindS, dTest, fTest, dBin, dC, dVar, dNotT, dAndT, dOrT, dAndV, dOrV, dIf, bindR, Dv.ret, hold_new, hold_int, hold_bl, hold_tup, hold_lst, hold_obj, hold_str, hold_non, hold_ty, hold_bor, dCall, dCons, dNil, dIter, fIter, dArg, nobor_new, nobor_int, nobor_bl, nobor_tup, nobor_lst, nobor_obj, nobor_str, nobor_non, nobor_ty, Bool.and_self, and_self, if_true, if_false, Bool.false_eq_true, Bool.not_true, Bool.not_false, List.all_cons, List.all_nil, List.length_cons, List.length_nil, Nat.zero_add, Nat.reduceAdd, List.getElem?_cons_zero, List.getElem?_cons_succ, List.set_cons_zero, List.set_cons_succ, decide_true, decide_false, fList]) ?_
  refine seq_nx (env' := [scr, .v (.obj 0), s2, .v (.int p), .v (.int n), .v (tupI a), .v (tupI b), .v (.int f), .v (lstI a), .v (.lst [tupI ((a.zip b).map fun q => (q.1 + q.2) % p), tupI (a.map fun x => x * f % p), tupI ((a.zip b).map fun q => (q.1 + q.2) % p)]), s10, s11, s12, s13, s14, s15, .no, .no]) (μ' := [.src u4]) (by simp (decide := true) only [dSeq, dIfS, dRet, dSkip, dAsg, tName, unbor, bindS, dTest, fTest, dBin, dC, dVar, dNotT, dAndT, dOrT, dAndV, dOrV, dIf, bindR, Dv.ret, hold_new, hold_int, hold_bl, hold_tup, hold_lst, hold_obj, hold_str, hold_non, hold_ty, hold_bor, dCall, dCons, dNil, dIter, fIter, dArg, nobor_new, nobor_int, nobor_bl, nobor_tup, nobor_lst, nobor_obj, nobor_str, nobor_non, nobor_ty, Bool.and_self, and_self, if_true, if_false, Bool.false_eq_true, Bool.not_true, Bool.not_false, List.all_cons, List.all_nil, List.length_cons, List.length_nil, Nat.zero_add, Nat.reduceAdd, List.getElem?_cons_zero, List.getElem?_cons_succ, List.set_cons_zero, List.set_cons_succ, decide_true, decide_false, fList, dCallK, List.cons_append, List.nil_append, call_ (n := 3) (added_ok (X := lstI a) (Y := tupI b) rfl rfl p0), call_ (n := 3) (added_ok (X := lstI a) (Y := lstI b) rfl rfl p0), call_ (n := 3) (multiplied_ok (X := lstI a) rfl p0 f0 (by omega : f < 1000000)), dLst, fLst]) ?_
  refine seq_nx (env' := [scr, .v (.obj 0), s2, .v (.int p), .v (.int n), .v (tupI a), .v (tupI b), .v (.int f), .v (lstI a), .v (.lst [tupI ((a.zip b).map fun q => (q.1 + q.2) % p), tupI (a.map fun x => x * f % p), tupI ((a.zip b).map fun q => (q.1 + q.2) % p)]), .v (.lst [tupI ((a.zip b).map fun q => (q.1 + q.2) % p), tupI (a.map fun x => x * f % p), tupI ((a.zip b).map fun q => (q.1 + q.2) % p)]), s11, s12, s13, s14, s15, .no, .no]) (μ' := [.src u4]) (by simp (decide := true) only [dSeq, dIfS, dRet, dSkip, dAsg, tName, unbor, bindS, dTest, fTest, dBin, dC, dVar, dNotT, dAndT, dOrT, dAndV, dOrV, dIf, bindR, Dv.ret, hold_new, hold_int, hold_bl, hold_tup, hold_lst, hold_obj, hold_str, hold_non, hold_ty, hold_bor, dCall, dCons, dNil, dIter, fIter, dArg, nobor_new, nobor_int, nobor_bl, nobor_tup, nobor_lst, nobor_obj, nobor_str, nobor_non, nobor_ty, Bool.and_self, and_self, if_true, if_false, Bool.false_eq_true, Bool.not_true, Bool.not_false, List.all_cons, List.all_nil, List.length_cons, List.length_nil, Nat.zero_add, Nat.reduceAdd, List.getElem?_cons_zero, List.getElem?_cons_succ, List.set_cons_zero, List.set_cons_succ, decide_true, decide_false, dTup, fTup, hz, call_ (n := 4) (sum_ok (X := tupI a) (Y := tupI b) rfl rfl p0 bb), call_ (n := 4) (sum_ok (X := tupI (List.replicate n.toNat 0)) (Y := tupI a) rfl rfl p0 ba), hfnd, hmul, dLst, fLst]) ?_
  refine seq_nx (env' := [scr, .v (.obj 0), s2, .v (.int p), .v (.int n), .v (tupI a), .v (tupI b), .v (.int f), .v (lstI a), .v (.lst [tupI ((a.zip b).map fun q => (q.1 + q.2) % p), tupI (a.map fun x => x * f % p), tupI ((a.zip b).map fun q => (q.1 + q.2) % p)]), .v (.lst [tupI ((a.zip b).map fun q => (q.1 + q.2) % p), tupI (a.map fun x => x * f % p), tupI ((a.zip b).map fun q => (q.1 + q.2) % p)]), s11, s12, s13, s14, s15, .no, .no]) (μ' := [.src u4]) (by simp (decide := true) only [dSeq, dIfS, dRet, dSkip, dAsg, tName, unbor, bindS, dTest, fTest, dBin, dC, dVar, dNotT, dAndT, dOrT, dAndV, dOrV, dIf, bindR, Dv.ret, hold_new, hold_int, hold_bl, hold_tup, hold_lst, hold_obj, hold_str, hold_non, hold_ty, hold_bor, dCall, dCons, dNil, dIter, fIter, dArg, nobor_new, nobor_int, nobor_bl, nobor_tup, nobor_lst, nobor_obj, nobor_str, nobor_non, nobor_ty, Bool.and_self, and_self, if_true, if_false, Bool.false_eq_true, Bool.not_true, Bool.not_false, List.all_cons, List.all_nil, List.length_cons, List.length_nil, Nat.zero_add, Nat.reduceAdd, List.getElem?_cons_zero, List.getElem?_cons_succ, List.set_cons_zero, List.set_cons_succ, decide_true, decide_false, call_ (n := 2) lk1, fList, fne_self 1 (lk_lstI 0 a) (by decide)]) ?_
  refine seq_nx (env' := [scr, .v (.obj 0), s2, .v (.int p), .v (.int n), .v (tupI a), .v (tupI b), .v (.int f), .v (lstI a), .v (.lst [tupI ((a.zip b).map fun q => (q.1 + q.2) % p), tupI (a.map fun x => x * f % p), tupI ((a.zip b).map fun q => (q.1 + q.2) % p)]), .v (.lst [tupI ((a.zip b).map fun q => (q.1 + q.2) % p), tupI (a.map fun x => x * f % p), tupI ((a.zip b).map fun q => (q.1 + q.2) % p)]), .v (.int ((a.zip b).map fun q => q.1 * q.2).sum), s12, s13, s14, s15, .no, .no]) (μ' := [.src u4]) (by simp (decide := true) only [dSeq, dIfS, dRet, dSkip, dAsg, tName, unbor, bindS, dTest, fTest, dBin, dC, dVar, dNotT, dAndT, dOrT, dAndV, dOrV, dIf, bindR, Dv.ret, hold_new, hold_int, hold_bl, hold_tup, hold_lst, hold_obj, hold_str, hold_non, hold_ty, hold_bor, dCall, dCons, dNil, dIter, fIter, dArg, nobor_new, nobor_int, nobor_bl, nobor_tup, nobor_lst, nobor_obj, nobor_str, nobor_non, nobor_ty, Bool.and_self, and_self, if_true, if_false, Bool.false_eq_true, Bool.not_true, Bool.not_false, List.all_cons, List.all_nil, List.length_cons, List.length_nil, Nat.zero_add, Nat.reduceAdd, List.getElem?_cons_zero, List.getElem?_cons_succ, List.set_cons_zero, List.set_cons_succ, decide_true, decide_false, hc_ a b u4 bb _ _ _ _ _ _ _ _ _ _ _ _ _ _ _ _ rfl rfl, fSum, seqL, asInts_intsD]) ?_
  refine seq_nx (env' := [scr, .v (.obj 0), s2, .v (.int p), .v (.int n), .v (tupI a), .v (tupI b), .v (.int f), .v (lstI a), .v (.lst [tupI ((a.zip b).map fun q => (q.1 + q.2) % p), tupI (a.map fun x => x * f % p), tupI ((a.zip b).map fun q => (q.1 + q.2) % p)]), .v (.lst [tupI ((a.zip b).map fun q => (q.1 + q.2) % p), tupI (a.map fun x => x * f % p), tupI ((a.zip b).map fun q => (q.1 + q.2) % p)]), .v (.int ((a.zip b).map fun q => q.1 * q.2).sum), s12, s13, s14, s15, .no, .no]) (μ' := [.src u4]) (by
    have hm2 : fMul (.lst [.int (((a.zip b).map fun q => q.1 * q.2).sum % p)]) (.int 2) [.src u4] = some (.val (.new [.int (((a.zip b).map fun q => q.1 * q.2).sum % p), .int (((a.zip b).map fun q => q.1 * q.2).sum % p)]), [.src u4]) := rfl
    simp (decide := true) only [dSeq, dIfS, dRet, dSkip, dAsg, tName, unbor, bindS, dTest, fTest, dBin, dC, dVar, dNotT, dAndT, dOrT, dAndV, dOrV, dIf, bindR, Dv.ret, hold_new, hold_int, hold_bl, hold_tup, hold_lst, hold_obj, hold_str, hold_non, hold_ty, hold_bor, dCall, dCons, dNil, dIter, fIter, dArg, nobor_new, nobor_int, nobor_bl, nobor_tup, nobor_lst, nobor_obj, nobor_str, nobor_non, nobor_ty, Bool.and_self, and_self, if_true, if_false, Bool.false_eq_true, Bool.not_true, Bool.not_false, List.all_cons, List.all_nil, List.length_cons, List.length_nil, Nat.zero_add, Nat.reduceAdd, List.getElem?_cons_zero, List.getElem?_cons_succ, List.set_cons_zero, List.set_cons_succ, decide_true, decide_false, dCallK, List.cons_append, List.nil_append, call_ (n := 3) (value_ok (X := lstI a) (Y := tupI b) rfl rfl p0 bb), call_ (n := 3) (value_ok (X := tupI b) (Y := lstI a) rfl rfl p0 ba), zc, dLst, fLst, fInt, fmod_int _ p _ p0, hm2, call_ (n := 2) (lk2 _)]) ?_
  refine seq_nx (env' := [scr, .v (.obj 0), s2, .v (.int p), .v (.int n), .v (tupI a), .v (tupI b), .v (.int f), .v (lstI a), .v (.lst [tupI ((a.zip b).map fun q => (q.1 + q.2) % p), tupI (a.map fun x => x * f % p), tupI ((a.zip b).map fun q => (q.1 + q.2) % p)]), .v (.lst [tupI ((a.zip b).map fun q => (q.1 + q.2) % p), tupI (a.map fun x => x * f % p), tupI ((a.zip b).map fun q => (q.1 + q.2) % p)]), .v (.int ((a.zip b).map fun q => q.1 * q.2).sum), .v (tupI lt), .v (.int L), s14, s15, .no, .no]) (μ' := [.src u4]) (by simp (decide := true) only [dPar2, dSeq, dIfS, dRet, dSkip, dAsg, tName, unbor, bindS, dTest, fTest, dBin, dC, dVar, dNotT, dAndT, dOrT, dAndV, dOrV, dIf, bindR, Dv.ret, hold_new, hold_int, hold_bl, hold_tup, hold_lst, hold_obj, hold_str, hold_non, hold_ty, hold_bor, dCall, dCons, dNil, dIter, fIter, dArg, nobor_new, nobor_int, nobor_bl, nobor_tup, nobor_lst, nobor_obj, nobor_str, nobor_non, nobor_ty, Bool.and_self, and_self, if_true, if_false, Bool.false_eq_true, Bool.not_true, Bool.not_false, List.all_cons, List.all_nil, List.length_cons, List.length_nil, Nat.zero_add, Nat.reduceAdd, List.getElem?_cons_zero, List.getElem?_cons_succ, List.set_cons_zero, List.set_cons_succ, decide_true, decide_false, call_ (n := 2) q1, call_ (n := 1) eld]) ?_
  by_cases hl : leadN a < a.length
  · obtain ⟨x, hx, hx1, x0, x1, hxm⟩ := q6 hl
    rw [if_pos hl] at hL
    subst hL
    have c1 : ¬ ((leadN a : Int) < 0) := by omega
    have c2 : (0 : Int) ≤ (leadN a : Int) := by omega
    have hsm : (((List.replicate n.toNat 0).zip lt).map fun q => (q.1 + x * q.2) % p) = a := by
      rw [hn, ← q3, zip_zeros fun q => (q.1 + x * q.2) % p]
      simp only [Int.zero_add]; exact hxm
    refine seq_nx (env' := [scr, .v (.obj 0), s2, .v (.int p), .v (.int n), .v (tupI a), .v (tupI b), .v (.int f), .v (lstI a), .v (.lst [tupI ((a.zip b).map fun q => (q.1 + q.2) % p), tupI (a.map fun x => x * f % p), tupI ((a.zip b).map fun q => (q.1 + q.2) % p)]), .v (.lst [tupI ((a.zip b).map fun q => (q.1 + q.2) % p), tupI (a.map fun x => x * f % p), tupI ((a.zip b).map fun q => (q.1 + q.2) % p)]), .v (.int ((a.zip b).map fun q => q.1 * q.2).sum), .v (tupI lt), .v (.int (leadN a : Int)), s14, s15, .no, .no]) (μ' := [.src u4]) (by simp (decide := true) only [dSeq, dIfS, dRet, dSkip, dAsg, tName, unbor, bindS, dTest, fTest, dBin, dC, dVar, dNotT, dAndT, dOrT, dAndV, dOrV, dIf, bindR, Dv.ret, hold_new, hold_int, hold_bl, hold_tup, hold_lst, hold_obj, hold_str, hold_non, hold_ty, hold_bor, dCall, dCons, dNil, dIter, fIter, dArg, nobor_new, nobor_int, nobor_bl, nobor_tup, nobor_lst, nobor_obj, nobor_str, nobor_non, nobor_ty, Bool.and_self, and_self, if_true, if_false, Bool.false_eq_true, Bool.not_true, Bool.not_false, List.all_cons, List.all_nil, List.length_cons, List.length_nil, Nat.zero_add, Nat.reduceAdd, List.getElem?_cons_zero, List.getElem?_cons_succ, List.set_cons_zero, List.set_cons_succ, decide_true, decide_false, isi_tup_t, fCmp, c1, c2, fixS_seq (X := tupI lt) rfl (atI_intsD hx1), fne_int]) ?_
    refine seq_nx (env' := [scr, .v (.obj 0), s2, .v (.int p), .v (.int n), .v (tupI a), .v (tupI b), .v (.int f), .v (lstI a), .v (.lst [tupI ((a.zip b).map fun q => (q.1 + q.2) % p), tupI (a.map fun x => x * f % p), tupI ((a.zip b).map fun q => (q.1 + q.2) % p)]), .v (.lst [tupI ((a.zip b).map fun q => (q.1 + q.2) % p), tupI (a.map fun x => x * f % p), tupI ((a.zip b).map fun q => (q.1 + q.2) % p)]), .v (.int ((a.zip b).map fun q => q.1 * q.2).sum), .v (tupI lt), .v (.int (leadN a : Int)), s14, s15, .no, .no]) (μ' := [.src u4]) (by simp (decide := true) only [dSeq, dIfS, dRet, dSkip, dAsg, tName, unbor, bindS, dTest, fTest, dBin, dC, dVar, dNotT, dAndT, dOrT, dAndV, dOrV, dIf, bindR, Dv.ret, hold_new, hold_int, hold_bl, hold_tup, hold_lst, hold_obj, hold_str, hold_non, hold_ty, hold_bor, dCall, dCons, dNil, dIter, fIter, dArg, nobor_new, nobor_int, nobor_bl, nobor_tup, nobor_lst, nobor_obj, nobor_str, nobor_non, nobor_ty, Bool.and_self, and_self, if_true, if_false, Bool.false_eq_true, Bool.not_true, Bool.not_false, List.all_cons, List.all_nil, List.length_cons, List.length_nil, Nat.zero_add, Nat.reduceAdd, List.getElem?_cons_zero, List.getElem?_cons_succ, List.set_cons_zero, List.set_cons_succ, decide_true, decide_false, dCallK, List.cons_append, List.nil_append, dTup, fTup, fCmp, c2, hz, fixS_seq (X := tupI a) rfl (atI_intsD hx), call_ (n := 4) (sum_ok (X := tupI (List.replicate n.toNat 0)) (Y := tupI lt) rfl rfl p0 bl), hsm, fne_self 1 (lk_tupI 0 _) (by decide), call_ (n := 2) q2]) ?_
    exact eloop
  · have hlt := q5 hl
    rw [if_neg hl] at hL
    subst hL
    have c1 : ((-1 : Int) < 0) := by omega
    have c2 : ¬ (0 : Int) ≤ (-1 : Int) := by omega
    refine seq_nx (env' := [scr, .v (.obj 0), s2, .v (.int p), .v (.int n), .v (tupI a), .v (tupI b), .v (.int f), .v (lstI a), .v (.lst [tupI ((a.zip b).map fun q => (q.1 + q.2) % p), tupI (a.map fun x => x * f % p), tupI ((a.zip b).map fun q => (q.1 + q.2) % p)]), .v (.lst [tupI ((a.zip b).map fun q => (q.1 + q.2) % p), tupI (a.map fun x => x * f % p), tupI ((a.zip b).map fun q => (q.1 + q.2) % p)]), .v (.int ((a.zip b).map fun q => q.1 * q.2).sum), .v (tupI lt), .v (.int (-1)), s14, s15, .no, .no]) (μ' := [.src u4]) (by simp (decide := true) only [dSeq, dIfS, dRet, dSkip, dAsg, tName, unbor, bindS, dTest, fTest, dBin, dC, dVar, dNotT, dAndT, dOrT, dAndV, dOrV, dIf, bindR, Dv.ret, hold_new, hold_int, hold_bl, hold_tup, hold_lst, hold_obj, hold_str, hold_non, hold_ty, hold_bor, dCall, dCons, dNil, dIter, fIter, dArg, nobor_new, nobor_int, nobor_bl, nobor_tup, nobor_lst, nobor_obj, nobor_str, nobor_non, nobor_ty, Bool.and_self, and_self, if_true, if_false, Bool.false_eq_true, Bool.not_true, Bool.not_false, List.all_cons, List.all_nil, List.length_cons, List.length_nil, Nat.zero_add, Nat.reduceAdd, List.getElem?_cons_zero, List.getElem?_cons_succ, List.set_cons_zero, List.set_cons_succ, decide_true, decide_false, isi_tup_t, fCmp, c1, c2, hlt, fne_self 1 (lk_tupI 0 _) (by decide)]) ?_
    refine seq_nx (env' := [scr, .v (.obj 0), s2, .v (.int p), .v (.int n), .v (tupI a), .v (tupI b), .v (.int f), .v (lstI a), .v (.lst [tupI ((a.zip b).map fun q => (q.1 + q.2) % p), tupI (a.map fun x => x * f % p), tupI ((a.zip b).map fun q => (q.1 + q.2) % p)]), .v (.lst [tupI ((a.zip b).map fun q => (q.1 + q.2) % p), tupI (a.map fun x => x * f % p), tupI ((a.zip b).map fun q => (q.1 + q.2) % p)]), .v (.int ((a.zip b).map fun q => q.1 * q.2).sum), .v (tupI lt), .v (.int (-1)), s14, s15, .no, .no]) (μ' := [.src u4]) (by simp (decide := true) only [dSeq, dIfS, dRet, dSkip, dAsg, tName, unbor, bindS, dTest, fTest, dBin, dC, dVar, dNotT, dAndT, dOrT, dAndV, dOrV, dIf, bindR, Dv.ret, hold_new, hold_int, hold_bl, hold_tup, hold_lst, hold_obj, hold_str, hold_non, hold_ty, hold_bor, dCall, dCons, dNil, dIter, fIter, dArg, nobor_new, nobor_int, nobor_bl, nobor_tup, nobor_lst, nobor_obj, nobor_str, nobor_non, nobor_ty, Bool.and_self, and_self, if_true, if_false, Bool.false_eq_true, Bool.not_true, Bool.not_false, List.all_cons, List.all_nil, List.length_cons, List.length_nil, Nat.zero_add, Nat.reduceAdd, List.getElem?_cons_zero, List.getElem?_cons_succ, List.set_cons_zero, List.set_cons_succ, decide_true, decide_false, dCallK, List.cons_append, List.nil_append, fCmp, c2, fne_self 1 (lk_tupI 0 _) (by decide), call_ (n := 2) q2]) ?_
    exact eloop
theorem pure : Pure := by
  intro ns hl
  obtain ⟨s, e, ho⟩ := source_ok 63 10014 ns hl
  have ho := ho (by decide) (by decide)
  obtain ⟨env', μ', ef, s', t2, t3, t4, t5, t6, t7, t8, t9, t10, t11, t12, t13, t14, t15, rfl, rfl, o'⟩ := for_nx (tg := tName 2) (body := (dSeq (dAsg (dCall (fCall 1 m__law_sizes) (dCons (dVar 1) dNil)) (Dv.tTup 2 (tsCons (tName 3) (tsCons (tName 4) tsNil))))
  (dSeq (dPar3 5 6 7 (dCons (dCall (fCall 3 mRow) (dCons (dVar 1) (dCons (dVar 3) (dCons (dVar 4) dNil)))) (dCons (dCall (fCall 3 mRow) (dCons (dVar 1) (dCons (dVar 3) (dCons (dVar 4) dNil)))) (dCons (dCall (fCall 2 mDraw) (dCons (dVar 1) (dCons (dVar 3) dNil))) dNil))))
  (dSeq (dAsg (dCall fList (dCons (dVar 5) dNil)) (tName 8))
  (dSeq (dAsg (dLst (dCons (dCall (fCall 3 mAdded) (dCons (dVar 8) (dCons (dVar 6) (dCons (dVar 3) dNil)))) (dCons (dCall (fCall 3 mMultiplied) (dCons (dVar 8) (dCons (dVar 7) (dCons (dVar 3) dNil)))) (dCons (dCallK (fCall 3 mAdded) 2 1 (dCons (dVar 8) (dCons (dCall fList (dCons (dVar 6) dNil)) dNil)) (dCons (dVar 3) dNil)) dNil)))) (tName 9))
  (dSeq (dAsg (dLst (dCons (dCall (fCall 4 mSum) (dCons (dVar 3) (dCons (dVar 5) (dCons (dVar 6) (dCons (dC (.int 1)) dNil))))) (dCons (dCall (fCall 4 mSum) (dCons (dVar 3) (dCons (dBin fMul (dTup (dCons (dC (.int 0)) dNil)) (dVar 4)) (dCons (dVar 5) (dCons (dVar 7) dNil))))) (dCons (dCall (fCall 4 mSum) (dCons (dVar 3) (dCons (dVar 5) (dCons (dVar 6) (dCons (dC (.int 1)) dNil))))) dNil)))) (tName 10))
  (dSeq (dIfS (dOrT (dNotT (dTest (dCall (fCall 2 (mLike 12)) (dCons (dVar 9) (dCons (dVar 10) dNil))))) (dTest (dBin fNe (dVar 8) (dCall fList (dCons (dVar 5) dNil))))) (dRet (dC (.bl false))) dSkip)
  (dSeq (dAsg (dCall fSum (dCons (dLc (dArg fZip (dCons (dVar 5) (dCons (dVar 6) dNil))) [16, 17] (Dv.tTup 2 (tsCons (tName 16) (tsCons (tName 17) tsNil))) dYes (dBin fMul (dVar 16) (dVar 17))) dNil)) (tName 11))
  (dSeq (dIfS (dNotT (dTest (dCall (fCall 2 (mLike 12)) (dCons (dLst (dCons (dCall (fCall 3 mValue) (dCons (dVar 8) (dCons (dVar 6) (dCons (dVar 3) dNil)))) (dCons (dCallK (fCall 3 mValue) 2 1 (dCons (dVar 6) (dCons (dVar 8) dNil)) (dCons (dVar 3) dNil)) dNil))) (dCons (dBin fMul (dLst (dCons (dBin fMod (dCall fInt (dCons (dVar 11) dNil)) (dVar 3)) dNil)) (dC (.int 2))) dNil))))) (dRet (dC (.bl false))) dSkip)
  (dSeq (dPar2 12 13 (dCons (dCall (fCall 2 mScaled) (dCons (dVar 8) (dCons (dVar 3) dNil))) (dCons (dCall (fCall 1 mLead) (dCons (dVar 5) dNil)) dNil)))
  (dSeq (dIfS (dOrT (dNotT (dTest (dCall fIsi (dCons (dVar 12) (dCons (dC (.ty "tuple")) dNil))))) (dOrT (dAndT (dTest (dBin (fCmp fun i j => decide (i < j)) (dVar 13) (dC (.int 0)))) (dTest (dBin fNe (dVar 12) (dVar 5)))) (dAndT (dTest (dBin (fCmp fun i j => decide (j ≤ i)) (dVar 13) (dC (.int 0)))) (dTest (dBin fNe (dBin fIxS (dVar 12) (dVar 13)) (dC (.int 1))))))) (dRet (dC (.bl false))) dSkip)
  (dSeq (dIfS (dOrT (dAndT (dTest (dBin (fCmp fun i j => decide (j ≤ i)) (dVar 13) (dC (.int 0)))) (dTest (dBin fNe (dCall (fCall 4 mSum) (dCons (dVar 3) (dCons (dBin fMul (dTup (dCons (dC (.int 0)) dNil)) (dVar 4)) (dCons (dVar 12) (dCons (dBin fIxS (dVar 5) (dVar 13)) dNil))))) (dVar 5)))) (dTest (dBin fNe (dCallK (fCall 2 mScaled) 1 1 (dCons (dVar 12) dNil) (dCons (dVar 3) dNil)) (dVar 12)))) (dRet (dC (.bl false))) dSkip)
  (dFor (dArg fRange2 (dCons (dC (.int 1)) (dCons (dVar 3) dNil))) (tName 14) (dSeq (dAsg (dCall (fCall 2 mInverse) (dCons (dVar 14) (dCons (dVar 3) dNil))) (tName 15))
  (dIfS (dNotT (dTest (dCall (fCall 2 (mLike 12)) (dCons (dLst (dCons (dChain (fCmp fun i j => decide (i < j)) (fCmp fun i j => decide (i < j)) (dC (.int 0)) (dVar 15) (dVar 3)) (dCons (dBin fMod (dCall fInt (dCons (dBin fMul (dVar 14) (dVar 15)) dNil)) (dVar 3)) dNil))) (dCons (dLst (dCons (dC (.bl true)) (dCons (dC (.int 1)) dNil))) dNil))))) (dRet (dC (.bl false))) dSkip))))))))))))))) (fun env μ => ∃ s t2 t3 t4 t5 t6 t7 t8 t9 t10 t11 t12 t13 t14 t15, env = [.v (.scr (intsD ns)), .v (.obj 0), t2, t3, t4, t5, t6, t7, t8, t9, t10, t11, t12, t13, t14, t15, .no, .no] ∧ μ = [.src s] ∧ OkS s) (rangeD 0 6) (fun d hd env μ ⟨s, t2, t3, t4, t5, t6, t7, t8, t9, t10, t11, t12, t13, t14, t15, h1, h2, ho⟩ => by
    subst h1 h2
    obtain ⟨q2, q3, q4, q5, q6, q7, q8, q9, q10, q11, q12, q13, q14, q15, s', e, o⟩ := turn_ok s ho (.v (.scr (intsD ns))) (.v d) t3 t4 t5 t6 t7 t8 t9 t10 t11 t12 t13 t14 t15
    exact ⟨_, _, _, rfl, e, s', q2, q3, q4, q5, q6, q7, q8, q9, q10, q11, q12, q13, q14, q15, rfl, rfl, o⟩) [.v (.scr (intsD ns)), .v (.obj 0), .no, .no, .no, .no, .no, .no, .no, .no, .no, .no, .no, .no, .no, .no, .no, .no] [.src s] ⟨s, _, _, _, _, _, _, _, _, _, _, _, _, _, _, rfl, rfl, ho⟩
  refine ⟨[.src s'], def_ret (env := [.v (.scr (intsD ns)), .v (.obj 0), t2, t3, t4, t5, t6, t7, t8, t9, t10, t11, t12, t13, t14, t15, .no, .no]) ?_ rfl⟩
  show b_law [.v (.scr (intsD ns)), .no, .no, .no, .no, .no, .no, .no, .no, .no, .no, .no, .no, .no, .no, .no, .no, .no] [] = _
  refine seq_nx (env' := [.v (.scr (intsD ns)), .v (.obj 0), .no, .no, .no, .no, .no, .no, .no, .no, .no, .no, .no, .no, .no, .no, .no, .no]) (μ' := [.src s]) ?_ ?_
  · have e' : m__law_source [.scr (intsD ns)] [] = some (.val (.obj 0), [.src s]) := e
    have h : hold (.scr (intsD ns)) = .scr (intsD ns) := rfl
    have h2 : nobor (.scr (intsD ns)) = true := rfl
    simp (decide := true) only [dSeq, dIfS, dRet, dSkip, dAsg, tName, unbor, bindS, dTest, fTest, dBin, dC, dVar, dNotT, dAndT, dOrT, dAndV, dOrV, dIf, bindR, Dv.ret, hold_new, hold_int, hold_bl, hold_tup, hold_lst, hold_obj, hold_str, hold_non, hold_ty, hold_bor, dCall, dCons, dNil, dIter, fIter, dArg, nobor_new, nobor_int, nobor_bl, nobor_tup, nobor_lst, nobor_obj, nobor_str, nobor_non, nobor_ty, Bool.and_self, and_self, if_true, if_false, Bool.false_eq_true, Bool.not_true, Bool.not_false, List.all_cons, List.all_nil, List.length_cons, List.length_nil, Nat.zero_add, Nat.reduceAdd, List.getElem?_cons_zero, List.getElem?_cons_succ, List.set_cons_zero, List.set_cons_succ, decide_true, decide_false, h2, h, call_ (n := 1) (ha := by rfl) e']
  · refine seq_nx (for_of (ds := rangeD 0 6) (μ1 := [.src s]) rfl ef) rfl
end Lw_k03

theorem PySem.Challenge.cw_mendcalls_k03_sums_multiples_and_values_holds : PySem.Challenge.rw_mendcalls_k03_sums_multiples_and_values.Holds := by
  exact Lw_k03.holds Lw_k03.pure
