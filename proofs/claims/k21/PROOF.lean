import PyProof.Rows.All
import Wide.All
import OpenK.AllK
import Wide.FinOn
import KE.KStateDown
import HandS.ForMost
import HandS.ForExc
import HandS.CallSlots
import HandS.Defaults
import HandS.Lambda
import HandS.HeadHook4
import KE.KDflt
import HandS.IsInst
import HandS.TupAny
import HandS.Zip
import HandS.Deep
import HandS.TupMul
import KE.GoesEnum
import KE.GoesNew
import HandS.Iter
import HandS.Style
import HandS.Comp
import HandS.List
import HandS.Wide
import HandS.Words
import HandS.WordsExc
import HandS.Head0
import HandS.Head1
import HandS.Head2
import HandS.HeadEnd
import HandS.HeadHook1
import HandS.HeadHook2
import HandS.ExcInit
import KE.KExcSuper
import KE.KExcInit
import HandS.ExcField
import HandS.ExcValue
import HandS.TryMany
import HandS.Sort
import HandS.HeadWalk
import KE.KExcIs
import HandS.Property
import HandS.Star
import KE.SortData
import HandS.Nested
import HandS.FStr
import HandS.HeadNt
import HandS.SlotsOwn
import HandS.MakeKw
import PySem.Challenge.RW_mendcalls_k21_schedules_told
set_option Elab.async false
set_option linter.all false
set_option maxRecDepth 100000
set_option maxHeartbeats 0
/-! DvA: deep values, the store, the relation of a run's state to them, the readings as plain functions. -/
namespace Dv
open PySem PySem.Spec PyProof.Rows L2

/-! ### deep values -/
/-- what is fixed about a lambda that stands in a list: its number, its name, its text, whether it has one parameter =0, the names it catches -/
structure LamI where
  num : Nat
  q : Str
  params : Arguments
  body : Expr
  scope : Scope
  dfl : Bool
  fr : List Str
inductive D where
  | non | bl (b : Bool) | int (i : Int) | str (x : Str) | ty (n : String)
  | tup (l : List D) | lst (l : List D) | scr (l : List D)
  | new (l : List D) | bor (l : List D)
  | ins (c : Str) (fs : List (Str × D)) | exn (c : Str) (fs : List (Str × D))
  | obj (k : Nat) | glo (x : Str) | fn (a : Addr) | rng (lo hi : Int)
  | lam (cl : List (Str × Addr)) (L : LamI) | clo (L : LamI) (ds : List D)
/-- what a slot holds: nothing known, a frozen value, a list of its own -/
inductive SV where
  | no | v (d : D) | own (l : List D)
structure Src where
  cells : List Int
  at_ : Int
  big : Int
  seed : Int
  cnt : Int
inductive MObj where
  | src (s : Src)
  | tab (p : Str × Option Str) (q : Str)
  | slf (c : Str) (fs : List (Str × D))
abbrev DEnv := List SV
abbrev Mu := List MObj
structure Exn where
  cls : Str
  fs : List (Str × D)
inductive Out (α : Type) where
  | val (a : α) | exc (x : Exn)
abbrev Res (α : Type) := Option (Out α × Mu)
abbrev DEx := DEnv → Mu → Res D
@[reducible] def bindR {α β : Type} (r : Res α) (f : α → Mu → Res β) : Res β := match r with
  | some (.val a, μ) => f a μ
  | some (.exc x, μ) => some (.exc x, μ)
  | none => none
@[reducible] def ret {α : Type} (a : α) (μ : Mu) : Res α := some (.val a, μ)

/-! ### values and deep values -/
structure Tx where
  K : PySem.W.Frag
  mg : Str → Option Value
abbrev szl (n : Nat) : Prop := n ≤ 16777216
/-- a tuple that stands: frozen, or the module's own -/
def SqG (K : PySem.W.Frag) (G : Hp) (a : Addr) (xs : List V) : Prop :=
  G a = some (.tup xs) ∨ ∃ (o : Obj) (its : Array Value) (n : Nat), K.lookup a = some o ∧ o.cls = .type "tuple" ∧ o.data = .seq its n ∧ its.size ≤ sizeLine ∧ Vals xs its.toList
theorem SqG.sq {K : PySem.W.Frag} {G : Hp} {a : Addr} {xs : List V} (h : SqG K G a xs) : SqT K G a xs := by
  rcases h with h | h
  · exact .inl (.inl h)
  · exact .inr h
theorem sqG_mono {K : PySem.W.Frag} {G G' : Hp} (s : Same G G') {a : Addr} {vs : List V} (h : SqG K G a vs) : SqG K G' a vs := by
  rcases h with h | h
  · exact .inl (s _ _ h)
  · exact .inr h
/-- at a: an error of the class at C, its dict at d -/
def exv (a C d : Addr) : HO := .ext fun h => ∃ oe vs, h.get? a = some oe ∧ oe.cls = .ref C ∧ oe.dict = some d ∧ oe.data = Data.fields vs
/-- the function object of a lambda, at f -/
def LamO (f c' : Addr) (dV : Value) (cl : List (Str × Addr)) (L : LamI) : HO := .ext fun h => ∃ (doc pm ctv : Value), h.get? f = some (PySem.W.kdv_obj "<lambda>" L.q L.params (.expr L.body) L.scope cl dV doc pm c' ctv)
structure FunAt (G : Hp) (f : Addr) (cl : List (Str × Addr)) (L : LamI) : Prop where
  ex : ∃ c' dV, G f = some (LamO f c' dV cl L) ∧ G c' = some (LamX.CodeO c' L.q) ∧ ((L.dfl = false ∧ dV = .none) ∨ (L.dfl = true ∧ ∃ t, dV = .ref t ∧ G t = some (.tup [.int 0])))
/-- a cell that stands still -/
def celO (o : Obj) : HO := .frz o (.ext fun _ => True)
structure CelAt (G : Hp) (cl : List (Str × Addr)) (fr : List Str) (vs : List V) : Prop where
  len : vs.length = fr.length
  all : ∀ y a, cl.lookup y = some a → ∃ o u, G a = some (celO o) ∧ o.data = .cell u
  inj : ∀ x y a, cl.lookup x = some a → cl.lookup y = some a → x = y
  has : ∀ (i : Nat) (y : Str), fr[i]? = some y → ∃ a o u v, cl.lookup y = some a ∧ G a = some (celO o) ∧ o.data = .cell (some u) ∧ vs[i]? = some v ∧ L2.RelV v u
theorem FunAt.mono {G G' : Hp} {f : Addr} {cl : List (Str × Addr)} {L : LamI} (h : FunAt G f cl L) (s : Same G G') : FunAt G' f cl L := by
  obtain ⟨c', dV, e1, e2, e3⟩ := h.ex
  exact ⟨c', dV, s _ _ e1, s _ _ e2, e3.elim .inl fun ⟨a, t, b, c⟩ => .inr ⟨a, t, b, s _ _ c⟩⟩
theorem CelAt.mono {G G' : Hp} {cl : List (Str × Addr)} {fr : List Str} {vs : List V} (h : CelAt G cl fr vs) (s : Same G G') : CelAt G' cl fr vs :=
  ⟨h.len, fun y a e => (let ⟨o, u, x, z⟩ := h.all y a e; ⟨o, u, s _ _ x, z⟩), h.inj, fun i y e => (let ⟨a, o, u, v, x1, x2, x3⟩ := h.has i y e; ⟨a, o, u, v, x1, s _ _ x2, x3⟩)⟩
section
variable (T : Tx) (ρ : List Addr) (G : Hp)
mutual
def Rep : V → D → Prop
  | v, .non => v = .non
  | v, .bl b => v = .bl b
  | v, .int i => v = .int i
  | v, .str x => v = .str x
  | v, .ty n => v = .ty n
  | v, .tup l => ∃ a vs, v = .ref a ∧ SqG T.K G a vs ∧ szl l.length ∧ Reps vs l
  | v, .lst l => ∃ a vs, v = .ref a ∧ G a = some (.lst vs) ∧ szl l.length ∧ Reps vs l
  | v, .scr l => ∃ a vs, v = .ref a ∧ SqL T.K G a vs ∧ szl l.length ∧ Reps vs l
  | _, .new _ => False
  | _, .bor _ => False
  | v, .ins c fs => ∃ a C dx vf, v = .ref a ∧ T.mg c = some (.ref C) ∧ G a = some (.ins C dx vf) ∧ RepF vf fs
  | v, .exn c fs => ∃ a C d vf, v = .ref a ∧ T.mg c = some (.ref C) ∧ G a = some (exv a C d) ∧ G d = some (.xd vf) ∧ RepF vf fs
  | v, .obj k => ∃ a, v = .ref a ∧ ρ[k]? = some a
  | v, .glo x => ∃ a, v = .ref a ∧ T.mg x = some (.ref a)
  | v, .fn a => v = .ref a
  | v, .rng lo hi => ∃ a, v = .ref a ∧ G a = some (.rng lo hi)
  | v, .lam cl L => ∃ f, v = .ref f ∧ FunAt G f cl L
  | v, .clo L ds => ∃ f cl vs, v = .ref f ∧ FunAt G f cl L ∧ CelAt G cl L.fr vs ∧ Reps vs ds
def Reps : List V → List D → Prop
  | vs, [] => vs = []
  | vs, d :: ds => ∃ v r, vs = v :: r ∧ Rep v d ∧ Reps r ds
def RepF : List (Str × V) → List (Str × D) → Prop
  | vs, [] => vs = []
  | vs, (f, d) :: ds => ∃ v r, vs = (f, v) :: r ∧ Rep v d ∧ RepF r ds
end
end
def Pre (ρ ρ' : List Addr) : Prop := ∀ (k : Nat) a, ρ[k]? = some a → ρ'[k]? = some a
theorem Pre.refl (ρ : List Addr) : Pre ρ ρ := fun _ _ h => h
theorem Pre.trans {a b c : List Addr} (h : Pre a b) (g : Pre b c) : Pre a c := fun k x e => g k x (h k x e)
section
variable {T : Tx} {ρ ρ' : List Addr} {G G' H : Hp}
theorem sqT_mono (s : Same G G') {a : Addr} {vs : List V} (h : SqT T.K G a vs) : SqT T.K G' a vs := by
  rcases h with (h | ⟨o, h⟩) | h
  · exact .inl (.inl (s _ _ h))
  · exact .inl (.inr ⟨o, s _ _ h⟩)
  · exact .inr h
theorem sqL_mono (s : Same G G') {a : Addr} {vs : List V} (h : SqL T.K G a vs) : SqL T.K G' a vs := by
  rcases h with (h | ⟨o, h⟩) | h
  · exact .inl (.inl (s _ _ h))
  · exact .inl (.inr ⟨o, s _ _ h⟩)
  · exact .inr h
mutual
theorem Rep.mono (s : Same G G') (p : Pre ρ ρ') : ∀ {d : D} {v : V}, Rep T ρ G v d → Rep T ρ' G' v d
  | .non, _, h => h
  | .bl _, _, h => h
  | .int _, _, h => h
  | .str _, _, h => h
  | .ty _, _, h => h
  | .tup l, v, h => by
    unfold Rep at h ⊢
    obtain ⟨a, vs, e, q, z, r⟩ := h
    exact ⟨a, vs, e, sqG_mono s q, z, Reps.mono s p r⟩
  | .lst l, v, h => by
    unfold Rep at h ⊢
    obtain ⟨a, vs, e, q, z, r⟩ := h
    exact ⟨a, vs, e, s _ _ q, z, Reps.mono s p r⟩
  | .scr l, v, h => by
    unfold Rep at h ⊢
    obtain ⟨a, vs, e, q, z, r⟩ := h
    exact ⟨a, vs, e, sqL_mono s q, z, Reps.mono s p r⟩
  | .new _, _, h => by unfold Rep at h; exact h.elim
  | .bor _, _, h => by unfold Rep at h; exact h.elim
  | .ins c fs, v, h => by
    unfold Rep at h ⊢
    obtain ⟨a, C, dx, vf, e, m, q, r⟩ := h
    exact ⟨a, C, dx, vf, e, m, s _ _ q, RepF.mono s p r⟩
  | .exn c fs, v, h => by
    unfold Rep at h ⊢
    obtain ⟨a, C, d, vf, e, m, q, q2, r⟩ := h
    exact ⟨a, C, d, vf, e, m, s _ _ q, s _ _ q2, RepF.mono s p r⟩
  | .obj k, v, h => by
    unfold Rep at h ⊢
    obtain ⟨a, e, q⟩ := h
    exact ⟨a, e, p _ _ q⟩
  | .glo x, v, h => by unfold Rep at h ⊢; exact h
  | .fn a, v, h => by unfold Rep at h ⊢; exact h
  | .rng _ _, v, h => by unfold Rep at h ⊢; obtain ⟨a, e, q⟩ := h; exact ⟨a, e, s _ _ q⟩
  | .lam _ _, v, h => by unfold Rep at h ⊢; obtain ⟨f, e, q⟩ := h; exact ⟨f, e, q.mono s⟩
  | .clo _ ds, v, h => by unfold Rep at h ⊢; obtain ⟨f, cl, vs, e, q1, q2, r⟩ := h; exact ⟨f, cl, vs, e, q1.mono s, q2.mono s, Reps.mono s p r⟩
theorem Reps.mono (s : Same G G') (p : Pre ρ ρ') : ∀ {l : List D} {vs : List V}, Reps T ρ G vs l → Reps T ρ' G' vs l
  | [], _, h => by unfold Reps at h ⊢; exact h
  | d :: ds, vs, h => by
    unfold Reps at h ⊢
    obtain ⟨v, r, e, q, t⟩ := h
    exact ⟨v, r, e, Rep.mono s p q, Reps.mono s p t⟩
theorem RepF.mono (s : Same G G') (p : Pre ρ ρ') : ∀ {l : List (Str × D)} {vs : List (Str × V)}, RepF T ρ G vs l → RepF T ρ' G' vs l
  | [], _, h => by unfold RepF at h ⊢; exact h
  | (f, d) :: ds, vs, h => by
    unfold RepF at h ⊢
    obtain ⟨v, r, e, q, t⟩ := h
    exact ⟨v, r, e, Rep.mono s p q, RepF.mono s p t⟩
end
theorem Reps.nil : Reps T ρ G [] [] := by unfold Reps; rfl
theorem Reps.cons {v : V} {d : D} {vs : List V} {l : List D} (h : Rep T ρ G v d) (t : Reps T ρ G vs l) : Reps T ρ G (v :: vs) (d :: l) := by
  unfold Reps; exact ⟨v, vs, rfl, h, t⟩
theorem Reps.length : ∀ {l : List D} {vs : List V}, Reps T ρ G vs l → vs.length = l.length
  | [], vs, h => by unfold Reps at h; subst h; rfl
  | d :: ds, vs, h => by
    unfold Reps at h
    obtain ⟨v, r, rfl, _, t⟩ := h
    simp [Reps.length t]
theorem Reps.get : ∀ {l : List D} {vs : List V} {i : Nat} {d : D}, Reps T ρ G vs l → l[i]? = some d → ∃ v, vs[i]? = some v ∧ Rep T ρ G v d
  | [], _, _, _, _, e => by simp at e
  | x :: ds, vs, 0, d, h, e => by
    unfold Reps at h
    obtain ⟨v, r, rfl, q, t⟩ := h
    simp at e; subst e
    exact ⟨v, rfl, q⟩
  | x :: ds, vs, i + 1, d, h, e => by
    unfold Reps at h
    obtain ⟨v, r, rfl, q, t⟩ := h
    obtain ⟨w, e1, e2⟩ := Reps.get (i := i) t (by simpa using e)
    exact ⟨w, by simpa using e1, e2⟩
theorem Reps.append : ∀ {l m : List D} {vs us : List V}, Reps T ρ G vs l → Reps T ρ G us m → Reps T ρ G (vs ++ us) (l ++ m)
  | [], m, vs, us, h, g => by unfold Reps at h; subst h; exact g
  | d :: ds, m, vs, us, h, g => by
    unfold Reps at h
    obtain ⟨v, r, rfl, q, t⟩ := h
    exact .cons q (Reps.append t g)
theorem Reps.drop : ∀ {l : List D} {vs : List V} (n : Nat), Reps T ρ G vs l → Reps T ρ G (vs.drop n) (l.drop n)
  | _, _, 0, h => h
  | [], vs, n + 1, h => by unfold Reps at h; subst h; simp [Reps]
  | d :: ds, vs, n + 1, h => by
    unfold Reps at h
    obtain ⟨v, r, rfl, q, t⟩ := h
    exact Reps.drop n t
theorem Reps.take : ∀ {l : List D} {vs : List V} (n : Nat), Reps T ρ G vs l → Reps T ρ G (vs.take n) (l.take n)
  | _, _, 0, h => by simp [Reps]
  | [], vs, n + 1, h => by unfold Reps at h; subst h; simp [Reps]
  | d :: ds, vs, n + 1, h => by
    unfold Reps at h
    obtain ⟨v, r, rfl, q, t⟩ := h
    exact .cons q (Reps.take n t)
theorem Reps.one {v : V} {d : D} (h : Rep T ρ G v d) : Reps T ρ G [v] [d] := .cons h .nil
theorem Reps.inv1 {vs : List V} {d : D} (h : Reps T ρ G vs [d]) : ∃ v, vs = [v] ∧ Rep T ρ G v d := by
  unfold Reps at h
  obtain ⟨v, r, rfl, q, t⟩ := h
  unfold Reps at t; subst t
  exact ⟨v, rfl, q⟩
theorem Reps.inv {vs : List V} {d : D} {l : List D} (h : Reps T ρ G vs (d :: l)) : ∃ v r, vs = v :: r ∧ Rep T ρ G v d ∧ Reps T ρ G r l := by
  unfold Reps at h; exact h
theorem Reps.inv0 {vs : List V} (h : Reps T ρ G vs []) : vs = [] := by unfold Reps at h; exact h
end

/-! ### the store -/
def srcV (l : Addr) (s : Src) : List V := [.ref l, .int s.at_, .int s.big, .int s.seed, .int s.cnt]
def MR (T : Tx) (ρ : List Addr) (G H : Hp) (a : Addr) : MObj → Prop
  | .src s => ∃ l, H a = some (.lst (srcV l s)) ∧ G l = some (.lst (s.cells.map V.int))
  | .tab p q => a = (He.cT T.K p).2 ∧ ∃ ps : Array Value, H a = some (.tbl ps) ∧ TriplesOk ps.toList ∧ ∀ (pos : Pos) (u : Value), codeAmong pos ps.toList = some u → ∃ c, u = .ref c ∧ G c = some (LamX.CodeO c q)
  | .slf c fs => ∃ C dx vf, T.mg c = some (.ref C) ∧ H a = some (.ins C dx vf) ∧ RepF T ρ G vf fs
theorem MR.to {T : Tx} {ρ : List Addr} {G G' H H' : Hp} {a : Addr} {m : MObj} (r : MR T ρ G H a m) (g : Same G G') (h : ∀ o, H a = some o → H' a = some o) : MR T ρ G' H' a m := by
  cases m with
  | slf c fs => obtain ⟨C, dx, vf, e0, e1, e2⟩ := r; exact ⟨C, dx, vf, e0, h _ e1, e2.mono g (.refl _)⟩
  | src s => obtain ⟨l, e1, e2⟩ := r; exact ⟨l, h _ e1, g _ _ e2⟩
  | tab p q => obtain ⟨e0, ps, e1, e2, e3⟩ := r; exact ⟨e0, ps, h _ e1, e2, fun pos u hu => (let ⟨c, x, y⟩ := e3 pos u hu; ⟨c, x, g _ _ y⟩)⟩
theorem MR.pre {T : Tx} {ρ ρ' : List Addr} {G H : Hp} {a : Addr} {m : MObj} (r : MR T ρ G H a m) (p : Pre ρ ρ') : MR T ρ' G H a m := by
  cases m with
  | slf c fs => obtain ⟨C, dx, vf, e0, e1, e2⟩ := r; exact ⟨C, dx, vf, e0, e1, e2.mono (fun _ _ h => h) p⟩
  | src s => exact r
  | tab p q => exact r
theorem MR.some {T : Tx} {ρ : List Addr} {G H : Hp} {a : Addr} {m : MObj} (r : MR T ρ G H a m) : ∃ o, H a = some o := by
  cases m with
  | src s => obtain ⟨l, e1, _⟩ := r; exact ⟨_, e1⟩
  | tab p q => obtain ⟨_, ps, e1, _⟩ := r; exact ⟨_, e1⟩
  | slf c fs => obtain ⟨C, dx, vf, _, e1, _⟩ := r; exact ⟨_, e1⟩
structure StR (T : Tx) (ρ : List Addr) (G H : Hp) (μ : Mu) : Prop where
  len : ρ.length = μ.length
  nd : ρ.Nodup
  off : ∀ a ∈ ρ, G a = none
  at_ : ∀ (k : Nat) m, μ[k]? = some m → ∃ a, ρ[k]? = some a ∧ MR T ρ G H a m
/-- all objects but the store's stand; what is new is new -/
structure Ext (ρ : List Addr) (G H : Hp) (ρ' : List Addr) (G' H' : Hp) : Prop where
  gg : Same G G'
  pre : Pre ρ ρ'
  keep : ∀ a o, H a = some o → ∃ o', H' a = some o' ∧ (a ∉ ρ → o' = o)
  fg : ∀ a o, G' a = some o → G a = none → H a = none
  fr : ∀ a, a ∈ ρ' → a ∉ ρ → H a = none
section
variable {ρ ρ' ρ'' : List Addr} {G G' G'' H H' H'' : Hp}
theorem Ext.refl (ρ : List Addr) (G H : Hp) : Ext ρ G H ρ G H :=
  ⟨fun _ _ h => h, .refl _, fun _ o h => ⟨o, h, fun _ => rfl⟩, fun _ _ h n => (by rw [n] at h; cases h), fun _ h n => absurd h n⟩
theorem mem_of_pre (p : Pre ρ ρ') {a : Addr} (h : a ∈ ρ) : a ∈ ρ' := by
  obtain ⟨k, hk⟩ := List.mem_iff_getElem?.mp h
  exact List.mem_iff_getElem?.mpr ⟨k, p k a hk⟩
theorem Ext.old (a : Ext ρ G H ρ' G' H') {x : Addr} {o : HO} (h : H x = some o) (n : x ∉ ρ) : H' x = some o := by
  obtain ⟨o', e, k⟩ := a.keep x o h
  rw [e, k n]
theorem Ext.none (a : Ext ρ G H ρ' G' H') {x : Addr} (h : H' x = Option.none) : H x = Option.none := by
  cases e : H x with
  | none => rfl
  | some o =>
    obtain ⟨o', e', _⟩ := a.keep x o e
    rw [e'] at h; cases h
theorem Ext.trans (a : Ext ρ G H ρ' G' H') (b : Ext ρ' G' H' ρ'' G'' H'') : Ext ρ G H ρ'' G'' H'' where
  gg := a.gg.trans b.gg
  pre := a.pre.trans b.pre
  keep := fun x o h => by
    obtain ⟨o1, e1, k1⟩ := a.keep x o h
    obtain ⟨o2, e2, k2⟩ := b.keep x o1 e1
    refine ⟨o2, e2, fun n => ?_⟩
    rw [k2 fun m => ?_, k1 n]
    rw [a.fr x m n] at h; cases h
  fg := fun x o h n => by
    cases e : G' x with
    | some o' => exact a.fg x o' e n
    | none => exact a.none (b.fg x o h e)
  fr := fun x h n => by
    by_cases m : x ∈ ρ'
    · exact a.fr x m n
    · exact a.none (b.fr x h m)
end

/-! ### a body's state -/
structure Bs where
  H0 : Hp
  G0 : Hp
  ρ0 : List Addr
  xo : List (Addr × List V)
section
variable (T : Tx) (B : Bs) (ρ : List Addr) (G H : Hp) (σ : L2.St) (env : DEnv)
def SlR (i : Nat) : SV → Prop
  | .no => True
  | .v d => ∃ v : V, σ[i]? = some (some v) ∧ Rep T ρ G v d
  | .own l => ∃ (p : Addr) (vs : List V), σ[i]? = some (some (.ref p)) ∧ H p = some (.lst vs) ∧ Reps T ρ G vs l ∧ szl l.length ∧ G p = none ∧ p ∉ ρ ∧ B.H0 p = none
structure RD (μ : Mu) : Prop where
  gh : Same G H
  ext : Ext B.ρ0 B.G0 B.H0 ρ G H
  len : env.length = σ.length
  slot : ∀ (i : Nat) (s : SV), env[i]? = some s → SlR T B ρ G H σ i s
  own : ∀ (i j : Nat) (l l' : List D) (p : Addr), env[i]? = some (.own l) → env[j]? = some (.own l') → σ[i]? = some (some (.ref p)) → σ[j]? = some (some (.ref p)) → i = j
  st : StR T ρ G H μ
  xo : ∀ q ∈ B.xo, H q.1 = some (.lst q.2) ∧ G q.1 = none ∧ q.1 ∉ ρ ∧ B.H0 q.1 = none ∧ ∀ (i : Nat) (l' : List D), env[i]? = some (.own l') → σ[i]? ≠ some (some (.ref q.1))
  xn : (B.xo.map (·.1)).Nodup
/-- a value that is held on -/
def HeldR (v : V) : D → Prop
  | .bor l => ∃ (i : Nat) (p : Addr), env[i]? = some (.own l) ∧ σ[i]? = some (some (.ref p)) ∧ v = .ref p
  | d => Rep T ρ G v d
/-- a value that has just come -/
def RepX (v : V) : D → Prop
  | .new l => ∃ (p : Addr) (vs : List V), v = .ref p ∧ H p = some (.lst vs) ∧ Reps T ρ G vs l ∧ szl l.length ∧ G p = none ∧ p ∉ ρ ∧ B.H0 p = none ∧ (∀ (i : Nat) (l' : List D), env[i]? = some (.own l') → σ[i]? ≠ some (some (.ref p))) ∧ ∀ q ∈ B.xo, q.1 ≠ p
  | d => HeldR T ρ G σ env v d
end
section
variable {T : Tx} {B : Bs} {ρ ρ' : List Addr} {G G' H H' : Hp} {σ : L2.St} {env : DEnv} {μ : Mu}
theorem HeldR.mono (s : Same G G') (p : Pre ρ ρ') {v : V} {d : D} (h : HeldR T ρ G σ env v d) : HeldR T ρ' G' σ env v d := by
  cases d with
  | bor l => exact h
  | _ => exact Rep.mono s p (show Rep _ _ _ _ _ from h)
theorem HeldR.of {v : V} {d : D} (h : Rep T ρ G v d) : HeldR T ρ G σ env v d := by
  cases d with
  | bor l => unfold Rep at h; exact h.elim
  | _ => exact h
theorem RepX.of {v : V} {d : D} (h : HeldR T ρ G σ env v d) : RepX T B ρ G H σ env v d := by
  cases d with
  | new l => unfold HeldR Rep at h; exact h.elim
  | _ => exact h
theorem RepX.ofR {v : V} {d : D} (h : Rep T ρ G v d) : RepX T B ρ G H σ env v d := .of (.of h)
/-- an object is added to what is frozen -/
theorem StR.alloc {p : Addr} {o : HO} (h : StR T ρ G H μ) (hp : p ∉ ρ) (gn : G p = none ) (hH : ∀ a o', H a = some o' → a ≠ p → H' a = some o') (hne : ∀ a ∈ ρ, a ≠ p) : StR T ρ (upd G p o) H' μ where
  len := h.len
  nd := h.nd
  off := fun a ha => by rw [upd_ne (hne a ha)]; exact h.off a ha
  at_ := fun k m hm => by
    obtain ⟨a, ea, r⟩ := h.at_ k m hm
    exact ⟨a, ea, r.to (fun b u e => by rw [upd_ne (fun q => (by rw [q, gn] at e; cases e))]; exact e) fun o e => hH _ _ e (hne a (List.mem_of_getElem? ea))⟩
theorem RD.fresh_ (R : RD T B ρ G H σ env μ) {p : Addr} (n : H p = Option.none) : G p = Option.none ∧ p ∉ ρ ∧ B.H0 p = Option.none := by
  refine ⟨?_, fun m => ?_, R.ext.none n⟩
  · cases e : G p with
    | none => rfl
    | some o => rw [R.gh p o e] at n; cases n
  · obtain ⟨k, hk⟩ := List.mem_iff_getElem?.mp m
    have hlt : k < μ.length := by rw [← R.st.len]; exact (List.getElem?_eq_some_iff.mp hk).1
    obtain ⟨a, ea, r⟩ := R.st.at_ k (μ[k]) (by simp [hlt])
    rw [hk] at ea; cases ea
    obtain ⟨o, e1⟩ := r.some
    rw [e1] at n; cases n
theorem same_upd (n : G p = none) : Same G (upd G p o) := fun b u e => by
  rw [upd_ne (fun q => (by rw [q, n] at e; cases e))]; exact e
/-- a new object that is frozen at once -/
theorem RD.alloc (R : RD T B ρ G H σ env μ) {p : Addr} {o : HO} (n : H p = Option.none) : RD T B ρ (upd G p o) (upd H p o) σ env μ := by
  obtain ⟨gn, pn, bn⟩ := R.fresh_ n
  have hne : ∀ a o', H a = some o' → a ≠ p := fun a o' e q => by rw [q, n] at e; cases e
  refine ⟨fun b u e => ?_, ⟨R.ext.gg.trans (same_upd gn), R.ext.pre, fun a u e => ?_, fun a u e e0 => ?_, R.ext.fr⟩, R.len, fun i s hs => ?_, R.own, R.st.alloc pn gn (fun a o' e q => by rw [upd_ne q]; exact e) fun a ha q => pn (q ▸ ha), fun q hq => ?_, R.xn⟩
  rotate_left 4
  · obtain ⟨e1, e2, e3⟩ := R.xo q hq
    have z := hne q.1 _ e1
    exact ⟨by rw [upd_ne z]; exact e1, by rw [upd_ne z]; exact e2, e3⟩
  · by_cases q : b = p
    · subst q; rw [upd_same] at e ⊢; exact e
    · rw [upd_ne q] at e ⊢; exact R.gh b u e
  · obtain ⟨o', e1, k⟩ := R.ext.keep a u e
    exact ⟨o', by rw [upd_ne (hne a o' e1)]; exact e1, k⟩
  · by_cases q : a = p
    · subst q; exact bn
    · rw [upd_ne q] at e; exact R.ext.fg a u e e0
  · have h := R.slot i s hs
    cases s with
    | no => trivial
    | v d =>
      obtain ⟨v, e, r⟩ := h
      exact ⟨v, e, r.mono (same_upd gn) (.refl _)⟩
    | own l =>
      obtain ⟨q, vs, e1, e2, e3, e4, e5, e6, e7⟩ := h
      have z := hne q _ e2
      exact ⟨q, vs, e1, by rw [upd_ne z]; exact e2, e3.mono (same_upd gn) (.refl _), e4, by rw [upd_ne z]; exact e5, e6, e7⟩
/-- a new object that is not frozen -/
theorem RD.allocN (R : RD T B ρ G H σ env μ) {p : Addr} {o : HO} (n : H p = Option.none) : RD T B ρ G (upd H p o) σ env μ := by
  obtain ⟨gn, pn, bn⟩ := R.fresh_ n
  have hne : ∀ a o', H a = some o' → a ≠ p := fun a o' e q => by rw [q, n] at e; cases e
  refine ⟨fun b u e => ?_, ⟨R.ext.gg, R.ext.pre, fun a u e => ?_, R.ext.fg, R.ext.fr⟩, R.len, fun i s hs => ?_, R.own, ⟨R.st.len, R.st.nd, R.st.off, fun k m hm => ?_⟩, fun q hq => ?_, R.xn⟩
  rotate_left 4
  · obtain ⟨e1, e2⟩ := R.xo q hq
    exact ⟨by rw [upd_ne (hne q.1 _ e1)]; exact e1, e2⟩
  · rw [upd_ne (hne b u (R.gh b u e))]; exact R.gh b u e
  · obtain ⟨o', e1, k⟩ := R.ext.keep a u e
    exact ⟨o', by rw [upd_ne (hne a o' e1)]; exact e1, k⟩
  · have h := R.slot i s hs
    cases s with
    | no => trivial
    | v d => exact h
    | own l =>
      obtain ⟨q, vs, e1, e2, r⟩ := h
      exact ⟨q, vs, e1, by rw [upd_ne (hne q _ e2)]; exact e2, r⟩
  · obtain ⟨a, ea, r⟩ := R.st.at_ k m hm
    exact ⟨a, ea, r.to (fun _ _ e => e) fun o e1 => by rw [upd_ne (hne a _ e1)]; exact e1⟩
/-- a list of nobody's is frozen -/
theorem RD.freeze (R : RD T B ρ G H σ env μ) {p : Addr} {vs : List V} (hp : H p = some (.lst vs)) (pn : p ∉ ρ) (bn : B.H0 p = Option.none) (no : ∀ (i : Nat) (l' : List D), env[i]? = some (.own l') → σ[i]? ≠ some (some (.ref p))) (nx : ∀ q ∈ B.xo, q.1 ≠ p) :
    ∃ G', Same G G' ∧ G' p = some (.lst vs) ∧ RD T B ρ G' H σ env μ := by
  cases gn : G p with
  | some o =>
    have e := R.gh p o gn
    rw [hp] at e; cases e
    exact ⟨G, fun _ _ h => h, gn, R⟩
  | none =>
    refine ⟨upd G p (.lst vs), same_upd gn, upd_same, fun b u e => ?_, ⟨R.ext.gg.trans (same_upd gn), R.ext.pre, R.ext.keep, fun a u e e0 => ?_, R.ext.fr⟩, R.len, fun i s hs => ?_, R.own, R.st.alloc pn gn (fun a o' e _ => e) fun a ha q => pn (q ▸ ha), fun q hq => ?_, R.xn⟩
    rotate_left 3
    · obtain ⟨e1, e2, e3⟩ := R.xo q hq
      exact ⟨e1, by rw [upd_ne (nx q hq)]; exact e2, e3⟩
    · by_cases q : b = p
      · subst q; rw [upd_same] at e; cases e; exact hp
      · rw [upd_ne q] at e; exact R.gh b u e
    · by_cases q : a = p
      · subst q; exact bn
      · rw [upd_ne q] at e; exact R.ext.fg a u e e0
    · have h := R.slot i s hs
      cases s with
      | no => trivial
      | v d =>
        obtain ⟨v, e, r⟩ := h
        exact ⟨v, e, r.mono (same_upd gn) (.refl _)⟩
      | own l =>
        obtain ⟨q, us, e1, e2, e3, e4, e5, e6, e7⟩ := h
        have z : q ≠ p := fun z => no i l hs (z ▸ e1)
        exact ⟨q, us, e1, e2, e3.mono (same_upd gn) (.refl _), e4, by rw [upd_ne z]; exact e5, e6, e7⟩
end

/-! ### what is wanted behind an evaluation -/
def ExR (T : Tx) (ρ : List Addr) (G H : Hp) (cls : Value) (dd : Option Addr) (x : Exn) : Prop :=
  ∃ (C d : Addr) (vf : List (Str × V)), cls = .ref C ∧ T.mg x.cls = some (.ref C) ∧ dd = some d ∧ G d = some (.xd vf) ∧ RepF T ρ G vf x.fs
def KE {α : Type} (T : Tx) (B : Bs) (σ : L2.St) (env : DEnv) (W : WX) (P : List Addr → Hp → Hp → Mu → α → Prop) (ρ : List Addr) (G : Hp) : Res α → Prop
  | some (.val a, μ') => ∀ ρ' G' H', Same G G' → Pre ρ ρ' → RD T B ρ' G' H' σ env μ' → P ρ' G' H' μ' a
  | some (.exc x, μ') => ∀ ρ' G' H' cls dd, Same G G' → Pre ρ ρ' → RD T B ρ' G' H' σ env μ' → ExR T ρ' G' H' cls dd x → W cls dd σ H'
  | none => False
section
variable {α β : Type} {T : Tx} {B : Bs} {σ : L2.St} {env : DEnv} {W : WX} {P P' : List Addr → Hp → Hp → Mu → α → Prop} {Pb : List Addr → Hp → Hp → Mu → β → Prop} {ρ ρ' : List Addr} {G G' : Hp} {r : Res α} {f : α → Mu → Res β}
theorem KE.weak (h : KE T B σ env W P ρ G r) (s : Same G G') (p : Pre ρ ρ') : KE T B σ env W P ρ' G' r := by
  match r, h with
  | some (.val a, μ), h => exact fun ρ2 G2 H2 s2 p2 R => h ρ2 G2 H2 (s.trans s2) (p.trans p2) R
  | some (.exc x, μ), h => exact fun ρ2 G2 H2 c d s2 p2 R e => h ρ2 G2 H2 c d (s.trans s2) (p.trans p2) R e
theorem KE.imp (h : KE T B σ env W P ρ G r) (i : ∀ ρ' G' H' μ' a, Same G G' → Pre ρ ρ' → RD T B ρ' G' H' σ env μ' → P ρ' G' H' μ' a → P' ρ' G' H' μ' a) : KE T B σ env W P' ρ G r := by
  match r, h with
  | some (.val a, μ), h => exact fun ρ2 G2 H2 s2 p2 R => i _ _ _ _ _ s2 p2 R (h ρ2 G2 H2 s2 p2 R)
  | some (.exc x, μ), h => exact h
theorem KE.bind (h : KE T B σ env W Pb ρ G (bindR r f)) : KE T B σ env W (fun ρ1 G1 _ μ1 a => KE T B σ env W Pb ρ1 G1 (f a μ1)) ρ G r := by
  match r, h with
  | some (.val a, μ), h => exact fun ρ2 G2 H2 s2 p2 R => KE.weak (r := f a μ) h s2 p2
  | some (.exc x, μ), h => exact h
end

/-! ### holding and freezing -/
def hold : D → D
  | .new l => .lst l
  | d => d
def nobor : D → Bool
  | .bor _ => false
  | _ => true
section
variable {T : Tx} {B : Bs} {ρ ρ' : List Addr} {G G' H H' : Hp} {σ : L2.St} {env : DEnv} {μ : Mu}
theorem RepX.hold {v : V} {d : D} (h : RepX T B ρ G H σ env v d) (R : RD T B ρ G H σ env μ) : ∃ G', Same G G' ∧ RD T B ρ G' H σ env μ ∧ HeldR T ρ G' σ env v (hold d) := by
  cases d with
  | new l =>
    obtain ⟨p, vs, rfl, hp, r, z, gn, pn, bn, no, nx⟩ := h
    obtain ⟨G', s, g, R'⟩ := R.freeze hp pn bn no nx
    refine ⟨G', s, R', ?_⟩
    show Rep T ρ G' _ (.lst l)
    unfold Rep
    exact ⟨p, vs, rfl, g, z, r.mono s (.refl _)⟩
  | _ => exact ⟨G, fun _ _ h => h, R, h⟩
theorem HeldR.rep {v : V} {d : D} (h : HeldR T ρ G σ env v d) (n : nobor d = true) : Rep T ρ G v d := by
  cases d with
  | bor l => cases n
  | _ => exact h
/-- arguments that are held -/
inductive HReps (T : Tx) (ρ : List Addr) (G : Hp) (σ : L2.St) (env : DEnv) : List V → List D → Prop where
  | nil : HReps T ρ G σ env [] []
  | cons {v : V} {d : D} {vs : List V} {ds : List D} : HeldR T ρ G σ env v d → HReps T ρ G σ env vs ds → HReps T ρ G σ env (v :: vs) (d :: ds)
theorem HReps.mono (s : Same G G') (p : Pre ρ ρ') {vs : List V} {ds : List D} (h : HReps T ρ G σ env vs ds) : HReps T ρ' G' σ env vs ds := by
  induction h with
  | nil => exact .nil
  | cons a _ ih => exact .cons (a.mono s p) ih
theorem HReps.reps {vs : List V} {ds : List D} (h : HReps T ρ G σ env vs ds) (n : ds.all nobor = true) : Reps T ρ G vs ds := by
  induction h with
  | nil => exact .nil
  | cons a _ ih =>
    simp only [List.all_cons, Bool.and_eq_true] at n
    exact .cons (a.rep n.1) (ih n.2)
theorem HReps.length {vs : List V} {ds : List D} (h : HReps T ρ G σ env vs ds) : vs.length = ds.length := by
  induction h with
  | nil => rfl
  | cons _ _ ih => simp [ih]
end

/-! ### the judgements -/
abbrev tx (X : Cx) : Tx := ⟨X.K, X.mg⟩
def PX (T : Tx) (B : Bs) (σ : L2.St) (env : DEnv) (Q : VK) : List Addr → Hp → Hp → Mu → D → Prop := fun ρ' G' H' _ d => ∀ v, RepX T B ρ' G' H' σ env v d → Q v H'
def rdE (T : Tx) (B : Bs) (W : WX) (m : DEx) : TE := fun σ H Q => ∃ ρ G env μ, RD T B ρ G H σ env μ ∧ KE T B σ env W (PX T B σ env Q) ρ G (m env μ)
structure DE (X : Cx) (B : Bs) (W : WX) (e : Expr) (m : DEx) : Prop where
  run : PE X e (rdE (tx X) B W m)
def rdT (T : Tx) (B : Bs) (W : WX) (m : DEnv → Mu → Res Bool) : TT := fun σ H Q => ∃ ρ G env μ, RD T B ρ G H σ env μ ∧ KE T B σ env W (fun _ _ H' _ b => Q b H') ρ G (m env μ)
structure DT (X : Cx) (B : Bs) (W : WX) (e : Expr) (m : DEnv → Mu → Res Bool) : Prop where
  run : PT X e (rdT (tx X) B W m)
structure DW (X : Cx) (B : Bs) (W : WX) (e : Expr) (m : DEnv → Mu → Res Bool) : Prop where
  run : PW X e (rdT (tx X) B W m)
def rdA (T : Tx) (B : Bs) (W : WX) (m : DEnv → Mu → Res (List D)) : TA := fun σ H Q => ∃ ρ G env μ, RD T B ρ G H σ env μ ∧ KE T B σ env W (fun ρ' G' H' _ ds => ∀ vs, HReps T ρ' G' σ env vs ds → Q vs H') ρ G (m env μ)
structure DA (X : Cx) (B : Bs) (W : WX) (es : List Expr) (m : DEnv → Mu → Res (List D)) : Prop where
  run : PA X es (rdA (tx X) B W m)
section
variable {X : Cx} {e : Expr} {es : List Expr}
theorem peImp {t t' : TE} (h : PE X e t) (i : ∀ σ H Q, t' σ H Q → t σ H Q) : PE X e t' := ⟨fun pins s σ H Q I q => h.run pins s σ H Q I (i σ H Q q)⟩
theorem ptImp {t t' : TT} (h : PT X e t) (i : ∀ σ H Q, t' σ H Q → t σ H Q) : PT X e t' := ⟨fun pins s σ H Q I q => h.run pins s σ H Q I (i σ H Q q)⟩
theorem pwImp {t t' : TT} (h : PW X e t) (i : ∀ σ H Q, t' σ H Q → t σ H Q) : PW X e t' := ⟨fun wh pins s σ H Q I q => h.run wh pins s σ H Q I (i σ H Q q)⟩
theorem paImp {t t' : TA} (h : PA X es t) (i : ∀ σ H Q, t' σ H Q → t σ H Q) : PA X es t' := ⟨fun pos pins s σ H Q I q => h.run pos pins s σ H Q I (i σ H Q q)⟩
end
/-- one evaluation, then the next -/
theorem rd_then {T : Tx} {B : Bs} {W : WX} {σ : L2.St} {env : DEnv} {β : Type} {Pb : List Addr → Hp → Hp → Mu → β → Prop} {ρ : List Addr} {G H : Hp} {μ : Mu} {m : DEx} {f : D → Mu → Res β} {Q : VK}
    (R : RD T B ρ G H σ env μ) (k : KE T B σ env W Pb ρ G (bindR (m env μ) f))
    (h : ∀ ρ1 G1 H1 μ1 x d, Same G G1 → Pre ρ ρ1 → RD T B ρ1 G1 H1 σ env μ1 → HeldR T ρ1 G1 σ env x (hold d) → KE T B σ env W Pb ρ1 G1 (f d μ1) → Q x H1) : rdE T B W m σ H Q := by
  refine ⟨ρ, G, env, μ, R, k.bind.imp fun ρ1 G1 H1 μ1 d s p R1 k1 x hx => ?_⟩
  obtain ⟨G2, s2, R2, h2⟩ := hx.hold R1
  exact h ρ1 G2 H1 μ1 x d (s.trans s2) p R2 h2 (k1.weak s2 (.refl _))
end Dv

/-! DvB: the rules of expressions. -/
namespace Dv
open PySem PySem.Spec PyProof.Rows L2
section
variable {X : Cx} {B : Bs} {W : WX} {e a b : Expr} {es : List Expr} {m ma mb : DEx} {ms : DEnv → Mu → Res (List D)} {pos : Pos}
/-! ### names and constants -/
def dVar (i : Nat) : DEx := fun env μ => match env[i]? with
  | some (.v d) => ret d μ
  | some (.own l) => ret (.bor l) μ
  | _ => none
def dC (d : D) : DEx := fun _ μ => ret d μ
theorem de_var {i : Nat} (h : PE X e (tVar i)) : DE X B W e (dVar i) := by
  refine ⟨peImp h fun σ H Q ⟨ρ, G, env, μ, R, k⟩ => ?_⟩
  unfold dVar at k
  cases hs : env[i]? with
  | none => rw [hs] at k; exact k.elim
  | some s =>
    rw [hs] at k
    have q := R.slot i s hs
    cases s with
    | no => exact k.elim
    | v d =>
      obtain ⟨v, hv, r⟩ := q
      exact ⟨v, hv, k ρ G H (fun _ _ h => h) (.refl _) R v (.ofR r)⟩
    | own l =>
      obtain ⟨p, vs, hv, _⟩ := q
      exact ⟨_, hv, k ρ G H (fun _ _ h => h) (.refl _) R (.ref p) ⟨i, p, hs, hv, rfl⟩⟩
theorem de_c {v : V} {d : D} (h : PE X e (tC v)) (r : ∀ ρ G, Rep (tx X) ρ G v d) : DE X B W e (dC d) := by
  refine ⟨peImp h fun σ H Q ⟨ρ, G, env, μ, R, k⟩ => ?_⟩
  exact k ρ G H (fun _ _ h => h) (.refl _) R v (.ofR (r ρ G))
theorem rep_int {T : Tx} {ρ : List Addr} {G : Hp} {i : Int} : Rep T ρ G (.int i) (.int i) := by unfold Rep; rfl
theorem rep_bl {T : Tx} {ρ : List Addr} {G : Hp} {i : Bool} : Rep T ρ G (.bl i) (.bl i) := by unfold Rep; rfl
theorem rep_str {T : Tx} {ρ : List Addr} {G : Hp} {i : Str} : Rep T ρ G (.str i) (.str i) := by unfold Rep; rfl
theorem rep_non {T : Tx} {ρ : List Addr} {G : Hp} : Rep T ρ G .non .non := by unfold Rep; rfl
theorem rep_ty {T : Tx} {ρ : List Addr} {G : Hp} {i : String} : Rep T ρ G (.ty i) (.ty i) := by unfold Rep; rfl
theorem de_int {i j pos} : DE X B W (.Constant (.int i) j pos) (dC (.int i)) := de_c pe_int fun _ _ => rep_int
theorem de_bl {i j pos} : DE X B W (.Constant (.bool i) j pos) (dC (.bl i)) := de_c pe_bl fun _ _ => rep_bl
theorem de_str {i j pos} : DE X B W (.Constant (.str i) j pos) (dC (.str i)) := de_c pe_str fun _ _ => rep_str
theorem de_non {j pos} : DE X B W (.Constant .none j pos) (dC .non) := de_c pe_non fun _ _ => rep_non

/-! ### operators -/
abbrev F2 := D → D → Mu → Res D
def dBin (f : F2) (ma mb : DEx) : DEx := fun env μ => bindR (ma env μ) fun d μ => bindR (mb env μ) fun d' μ => f (hold d) (hold d') μ
/-- an operation by values -/
def OpD (T : Tx) (r : R2) (f : F2) : Prop := ∀ (B : Bs) (W : WX) (σ : L2.St) (env : DEnv) (ρ : List Addr) (G H : Hp) (μ : Mu) (x y : V) (d d' : D) (Q : VK),
  RD T B ρ G H σ env μ → HeldR T ρ G σ env x d → HeldR T ρ G σ env y d' → KE T B σ env W (PX T B σ env Q) ρ G (f d d' μ) → r x y H Q
theorem rd_bin {T : Tx} {r : R2} {f : F2} (hf : OpD T r f) {σ : L2.St} {H : Hp} {Q : VK} (h : rdE T B W (dBin f ma mb) σ H Q) : tOp r (rdE T B W ma) (rdE T B W mb) σ H Q := by
  obtain ⟨ρ, G, env, μ, R, k⟩ := h
  refine rd_then (f := fun d μ => bindR (mb env μ) fun d' μ => f (hold d) (hold d') μ) R k fun ρ1 G1 H1 μ1 x d s p R1 hx k1 => ?_
  refine rd_then (f := fun d' μ => f (hold d) (hold d') μ) R1 k1 fun ρ2 G2 H2 μ2 y d' s2 p2 R2 hy k2 => ?_
  exact hf B W σ env ρ2 G2 H2 μ2 x y _ _ Q R2 (hx.mono s2 p2) hy k2
theorem de_op {op : Operator} {r : R2} {f : F2} (ho : OpR X (binaryOp op) r) (hf : OpD (tx X) r f) (ha : DE X B W a ma) (hb : DE X B W b mb) : DE X B W (.BinOp a op b pos) (dBin f ma mb) :=
  ⟨peImp (pe_op ho ha.run hb.run) fun _ _ _ h => rd_bin hf h⟩
theorem de_cmp {op : CmpOp} {r : R2} {f : F2} (ho : OpR X (compareOp op) r) (hf : OpD (tx X) r f) (ha : DE X B W a ma) (hb : DE X B W b mb) (hm : behindInMarks op b = false) : DE X B W (.Compare a [op] [b] pos) (dBin f ma mb) :=
  ⟨peImp (pe_cmpR ho ha.run hb.run hm) fun _ _ _ h => rd_bin hf h⟩
theorem de_ix {r : R2} {f : F2} (ho : IxR X r) (hf : OpD (tx X) r f) (ha : DE X B W a ma) (hb : DE X B W b mb) (hs : PlainIx b) : DE X B W (.Subscript a b pos) (dBin f ma mb) :=
  ⟨peImp (pe_ix ho ha.run hb.run hs) fun _ _ _ h => rd_bin hf h⟩
/-! ### arithmetic -/
theorem int_inv {T : Tx} {ρ : List Addr} {G : Hp} {σ : L2.St} {env : DEnv} {x : V} {i : Int} (h : HeldR T ρ G σ env x (.int i)) : x = .int i := by
  have h : Rep T ρ G x (.int i) := h
  unfold Rep at h; exact h
def fAdd : F2
  | .int i, .int j, μ => ret (.int (i + j)) μ
  | .tup l, .tup m, μ => if szl (l.length + m.length) then ret (.tup (l ++ m)) μ else none
  | .lst l, .lst m, μ => if szl (l.length + m.length) then ret (.new (l ++ m)) μ else none
  | .str x, .str y, μ => if szl (x.length + y.length) then ret (.str (x ++ y)) μ else none
  | _, _, _ => none
def rAddA (K : PySem.W.Frag) : R2 := fun x y H Q => rI0 (fun i j => .int (i + j)) x y H Q ∨ rCatA K x y H Q ∨ rCat x y H Q ∨ (∃ i j, x = .str i ∧ y = .str j ∧ i.length + j.length ≤ sizeLine ∧ Q (.str (i ++ j)) H)
theorem op_addA : OpR X (binaryOp .Add) (rAddA X.K) := op_add.or (op_catA.or (op_cat.or op_add_str))
theorem szl_line {n : Nat} (h : szl n) : n ≤ sizeLine := by rw [sizeLine_eq]; exact h
section
variable {T : Tx} {ρ : List Addr} {G H : Hp} {σ : L2.St} {env : DEnv} {μ : Mu} {x : V} {Q : VK}
theorem tup_inv {l : List D} (h : HeldR T ρ G σ env x (.tup l)) : ∃ a vs, x = .ref a ∧ SqG T.K G a vs ∧ szl l.length ∧ Reps T ρ G vs l := by
  have h : Rep T ρ G x (.tup l) := h
  unfold Rep at h; exact h
theorem lst_inv {l : List D} (h : HeldR T ρ G σ env x (.lst l)) : ∃ a vs, x = .ref a ∧ G a = some (.lst vs) ∧ szl l.length ∧ Reps T ρ G vs l := by
  have h : Rep T ρ G x (.lst l) := h
  unfold Rep at h; exact h
theorem str_inv {z : Str} (h : HeldR T ρ G σ env x (.str z)) : x = .str z := by
  have h : Rep T ρ G x (.str z) := h
  unfold Rep at h; exact h
theorem bl_inv {z : Bool} (h : HeldR T ρ G σ env x (.bl z)) : x = .bl z := by
  have h : Rep T ρ G x (.bl z) := h
  unfold Rep at h; exact h
theorem rep_tup {a : Addr} {vs : List V} {l : List D} (h : SqG T.K G a vs) (z : szl l.length) (r : Reps T ρ G vs l) : Rep T ρ G (.ref a) (.tup l) := by
  unfold Rep; exact ⟨a, vs, rfl, h, z, r⟩
theorem rep_lst {a : Addr} {vs : List V} {l : List D} (h : G a = some (.lst vs)) (z : szl l.length) (r : Reps T ρ G vs l) : Rep T ρ G (.ref a) (.lst l) := by
  unfold Rep; exact ⟨a, vs, rfl, h, z, r⟩
/-- nothing has happened -/
theorem KE.here {d : D} {v : V} (k : KE T B σ env W (PX T B σ env Q) ρ G (ret d μ)) (R : RD T B ρ G H σ env μ) (r : RepX T B ρ G H σ env v d) : Q v H := k ρ G H (fun _ _ h => h) (.refl _) R v r
/-- a new tuple -/
theorem KE.newT {l : List D} {vs : List V} (k : KE T B σ env W (PX T B σ env Q) ρ G (ret (.tup l) μ)) (R : RD T B ρ G H σ env μ) (r : Reps T ρ G vs l) (z : szl l.length) : ∀ p, H p = none → Q (.ref p) (upd H p (.tup vs)) := fun p n => by
  have gn := (R.fresh_ n).1
  exact k ρ _ _ (same_upd gn) (.refl _) (R.alloc n) _ (.ofR (rep_tup (.inl upd_same) z (r.mono (same_upd gn) (.refl _))))
/-- a new list -/
theorem KE.newL {l : List D} {vs : List V} (k : KE T B σ env W (PX T B σ env Q) ρ G (ret (.new l) μ)) (R : RD T B ρ G H σ env μ) (r : Reps T ρ G vs l) (z : szl l.length) : ∀ p, H p = none → Q (.ref p) (upd H p (.lst vs)) := fun p n => by
  obtain ⟨gn, pn, bn⟩ := R.fresh_ n
  refine k ρ G _ (fun _ _ h => h) (.refl _) (R.allocN n) _ ⟨p, vs, rfl, upd_same, r, z, gn, pn, bn, fun i l' e1 e2 => ?_, fun q hq e => ?_⟩
  · obtain ⟨q, us, e3, e4, _⟩ := R.slot i _ e1
    rw [e2] at e3; cases e3
    rw [n] at e4; cases e4
  · have e1 := (R.xo q hq).1
    rw [e, n] at e1; cases e1
/-- the list at a value -/
def seqL : D → Option (List D)
  | .lst l => some l
  | .bor l => some l
  | _ => none
theorem seqL_inv {d : D} {l : List D} (R : RD T B ρ G H σ env μ) (h : HeldR T ρ G σ env x d) (e : seqL d = some l) : ∃ a vs, x = .ref a ∧ H a = some (.lst vs) ∧ szl l.length ∧ Reps T ρ G vs l := by
  cases d with
  | lst l' =>
    cases e
    obtain ⟨a, vs, q, g, z, r⟩ := lst_inv h
    exact ⟨a, vs, q, R.gh _ _ g, z, r⟩
  | bor l' =>
    cases e
    obtain ⟨i, p, e1, e2, rfl⟩ := h
    obtain ⟨p', vs, e3, e4, r, z, _⟩ := R.slot i _ e1
    rw [e2] at e3; cases e3
    exact ⟨p, vs, rfl, e4, z, r⟩
  | _ => cases e
end
theorem opd_add : OpD (tx X) (rAddA X.K) fAdd := by
  intro B W σ env ρ G H μ x y d d' Q R hx hy k
  unfold fAdd at k
  split at k
  · exact .inl ⟨_, _, int_inv hx, int_inv hy, k.here R (.ofR rep_int)⟩
  · rename_i l m
    split at k
    · rename_i hz
      obtain ⟨a, vs, rfl, q, z, r⟩ := tup_inv hx
      obtain ⟨b, us, rfl, q', z', r'⟩ := tup_inv hy
      refine .inr (.inl ⟨a, b, vs, us, rfl, rfl, (sqG_mono R.gh q).sq, (sqG_mono R.gh q').sq, by rw [r.length, r'.length]; exact szl_line hz, fun e => ?_, fun _ e => ?_, fun _ _ => k.newT R (r.append r') (by simpa using hz)⟩)
      · subst e
        have e0 : l = [] := by have := r.length; simp at this; exact List.length_eq_zero_iff.mp this.symm
        subst e0
        exact k.here R (.ofR (rep_tup q' z' r'))
      · subst e
        have e0 : m = [] := by have := r'.length; simp at this; exact List.length_eq_zero_iff.mp this.symm
        subst e0
        rw [List.append_nil] at k
        exact k.here R (.ofR (rep_tup q z r))
    · exact k.elim
  · rename_i l m
    split at k
    · rename_i hz
      obtain ⟨a, vs, rfl, q, z, r⟩ := lst_inv hx
      obtain ⟨b, us, rfl, q', z', r'⟩ := lst_inv hy
      exact .inr (.inr (.inl ⟨a, b, vs, us, rfl, rfl, R.gh _ _ q, R.gh _ _ q', by rw [r.length, r'.length]; exact szl_line hz, k.newL R (r.append r') (by simpa using hz)⟩))
    · exact k.elim
  · split at k
    · rename_i hz
      exact .inr (.inr (.inr ⟨_, _, str_inv hx, str_inv hy, szl_line hz, k.here R (.ofR rep_str)⟩))
    · exact k.elim
  · exact k.elim
def fSub : F2
  | .int i, .int j, μ => ret (.int (i - j)) μ
  | _, _, _ => none
theorem opd_sub : OpD (tx X) (rI0 fun i j => .int (i - j)) fSub := by
  intro B W σ env ρ G H μ x y d d' Q R hx hy k
  unfold fSub at k
  split at k
  · exact ⟨_, _, int_inv hx, int_inv hy, k.here R (.ofR rep_int)⟩
  · exact k.elim
def fMod : F2
  | .int i, .int j, μ => if 0 < j then ret (.int (i % j)) μ else none
  | _, _, _ => none
theorem opd_mod : OpD (tx X) (rI (fun _ j => 0 < j) fun i j => .int (i % j)) fMod := by
  intro B W σ env ρ G H μ x y d d' Q R hx hy k
  unfold fMod at k
  split at k
  · split at k
    · rename_i h0
      exact ⟨_, _, int_inv hx, int_inv hy, h0, k.here R (.ofR rep_int)⟩
    · exact k.elim
  · exact k.elim
def fCmp (p : Int → Int → Bool) : F2
  | .int i, .int j, μ => ret (.bl (p i j)) μ
  | _, _, _ => none
theorem opd_cmp {p : Int → Int → Bool} : OpD (tx X) (rI0 fun i j => .bl (p i j)) (fCmp p) := by
  intro B W σ env ρ G H μ x y d d' Q R hx hy k
  unfold fCmp at k
  split at k
  · exact ⟨_, _, int_inv hx, int_inv hy, k.here R (.ofR rep_bl)⟩
  · exact k.elim
end
end Dv

/-! DvC: products, equality, membership, tests, arguments, displays, subscripts. -/
namespace Dv
open PySem PySem.Spec PyProof.Rows L2
/-! ### data for == -/
mutual
def toPy : D → PyData
  | .non => .none
  | .bl b => .bool b
  | .int i => .int i
  | .str x => .str x
  | .tup l => .tuple (toPys l)
  | .lst l => .list (toPys l)
  | .bor l => .list (toPys l)
  | .new _ => .none
  | .ty _ => .none
  | .scr _ => .none
  | .ins _ _ => .none
  | .exn _ _ => .none
  | .obj _ => .none
  | .glo _ => .none
  | .fn _ => .none
  | .rng _ _ => .none
  | .lam _ _ => .none
  | .clo _ _ => .none
def toPys : List D → List PyData
  | [] => []
  | d :: ds => toPy d :: toPys ds
end
/-- the data of at most n levels -/
def plainD : Nat → D → Bool
  | _, .non => true
  | _, .bl _ => true
  | _, .int _ => true
  | _, .str x => PyData.strOk x
  | n + 1, .tup l => l.all (plainD n)
  | n + 1, .lst l => l.all (plainD n)
  | n + 1, .bor l => l.all (plainD n)
  | _, _ => false
def deq (a b : D) : Bool := PyData.eqv (toPy a) (toPy b)
section
variable {X : Cx} {B : Bs} {W : WX} {T : Tx} {ρ : List Addr} {G H : Hp} {σ : L2.St} {env : DEnv} {μ : Mu} {x : V} {Q : VK}
mutual
theorem dp_of {K : PySem.W.Frag} (gh : Same G H) (hk : K = T.K) : ∀ {d : D} {v : V} {n : Nat}, plainD n d = true → Rep T ρ G v d → Dp K H v (toPy d)
  | .non, v, n, _, r => by unfold Rep at r; subst r; exact .non
  | .bl b, v, n, _, r => by unfold Rep at r; subst r; exact .bl b
  | .int b, v, n, _, r => by unfold Rep at r; subst r; exact .int b
  | .str b, v, n, _, r => by unfold Rep at r; subst r; exact .str b
  | .tup l, v, 0, h, r => by unfold plainD at h; cases h
  | .tup l, v, n + 1, h, r => by
    unfold Rep at r; obtain ⟨a, vs, rfl, q, z, rs⟩ := r
    unfold plainD at h
    subst hk
    unfold toPy
    exact .tup (sqG_mono gh q).sq (dps_of gh rfl h rs)
  | .lst l, v, 0, h, r => by unfold plainD at h; cases h
  | .lst l, v, n + 1, h, r => by
    unfold Rep at r; obtain ⟨a, vs, rfl, q, z, rs⟩ := r
    unfold plainD at h
    unfold toPy
    exact .lst (.of (gh _ _ q)) (dps_of gh hk h rs)
  | .bor l, v, n, h, r => by unfold Rep at r; exact r.elim
  | .new l, v, n, h, r => by unfold Rep at r; exact r.elim
  | .ty _, v, n, h, r => by unfold plainD at h; cases h
  | .scr _, v, n, h, r => by unfold plainD at h; cases h
  | .ins _ _, v, n, h, r => by unfold plainD at h; cases h
  | .exn _ _, v, n, h, r => by unfold plainD at h; cases h
  | .obj _, v, n, h, r => by unfold plainD at h; cases h
  | .glo _, v, n, h, r => by unfold plainD at h; cases h
  | .fn _, v, n, h, r => by unfold plainD at h; cases h
  | .rng _ _, v, n, h, r => by unfold plainD at h; cases h
  | .lam _ _, v, n, h, r => by unfold plainD at h; cases h
  | .clo _ _, v, n, h, r => by unfold plainD at h; cases h
theorem dps_of {K : PySem.W.Frag} (gh : Same G H) (hk : K = T.K) : ∀ {l : List D} {vs : List V} {n : Nat}, l.all (plainD n) = true → Reps T ρ G vs l → DpAll K H vs (toPys l)
  | [], vs, n, _, r => by unfold Reps at r; subst r; unfold toPys; exact .nil
  | d :: ds, vs, n, h, r => by
    unfold Reps at r; obtain ⟨v, t, rfl, q, rs⟩ := r
    simp only [List.all_cons, Bool.and_eq_true] at h
    unfold toPys
    exact .cons (dp_of gh hk h.1 q) (dps_of gh hk h.2 rs)
end
mutual
theorem lay_of : ∀ {d : D} {n : Nat}, plainD n d = true → (toPy d).canLay0 = true ∧ (toPy d).depth ≤ n
  | .non, n, _ => by simp [toPy, PyData.canLay0, PyData.depth]
  | .bl b, n, _ => by simp [toPy, PyData.canLay0, PyData.depth]
  | .int b, n, _ => by simp [toPy, PyData.canLay0, PyData.depth]
  | .str b, n, h => by unfold plainD at h; simp [toPy, PyData.canLay0, PyData.depth, h]
  | .tup l, 0, h => by unfold plainD at h; cases h
  | .tup l, n + 1, h => by
    unfold plainD at h
    have q := lays_of h
    unfold toPy
    simp only [PyData.canLay0, PyData.depth]
    exact ⟨q.1, by omega⟩
  | .lst l, 0, h => by unfold plainD at h; cases h
  | .lst l, n + 1, h => by
    unfold plainD at h
    have q := lays_of h
    unfold toPy
    simp only [PyData.canLay0, PyData.depth]
    exact ⟨q.1, by omega⟩
  | .bor l, 0, h => by unfold plainD at h; cases h
  | .bor l, n + 1, h => by
    unfold plainD at h
    have q := lays_of h
    unfold toPy
    simp only [PyData.canLay0, PyData.depth]
    exact ⟨q.1, by omega⟩
  | .new _, n, h => by unfold plainD at h; cases h
  | .ty _, n, h => by unfold plainD at h; cases h
  | .scr _, n, h => by unfold plainD at h; cases h
  | .ins _ _, n, h => by unfold plainD at h; cases h
  | .exn _ _, n, h => by unfold plainD at h; cases h
  | .obj _, n, h => by unfold plainD at h; cases h
  | .glo _, n, h => by unfold plainD at h; cases h
  | .fn _, n, h => by unfold plainD at h; cases h
  | .rng _ _, n, h => by unfold plainD at h; cases h
  | .lam _ _, n, h => by unfold plainD at h; cases h
  | .clo _ _, n, h => by unfold plainD at h; cases h
theorem lays_of : ∀ {l : List D} {n : Nat}, l.all (plainD n) = true → PyData.canLayAll0 (toPys l) = true ∧ PyData.depthAll (toPys l) ≤ n
  | [], n, _ => by simp [toPys, PyData.canLayAll0, PyData.depthAll]
  | d :: ds, n, h => by
    simp only [List.all_cons, Bool.and_eq_true] at h
    have q1 := lay_of h.1
    have q2 := lays_of h.2
    unfold toPys
    simp only [PyData.canLayAll0, PyData.depthAll]
    exact ⟨by rw [q1.1, q2.1]; rfl, by omega⟩
end
theorem shaped_of {d : D} (h : plainD 60 d = true) : SeqAt.shaped (toPy d) = true := by
  obtain ⟨a, b⟩ := lay_of h
  unfold SeqAt.shaped
  rw [a, decide_eq_true (by omega)]; rfl
theorem dp_held {K : PySem.W.Frag} (R : RD T B ρ G H σ env μ) (hk : K = T.K) {d : D} (h : plainD 60 d = true) (r : HeldR T ρ G σ env x d) : Dp K H x (toPy d) := by
  cases d with
  | bor l =>
    obtain ⟨a, vs, rfl, q, z, rs⟩ := seqL_inv (d := .bor l) R r rfl
    unfold plainD at h
    unfold toPy
    exact .lst (.of q) (dps_of R.gh hk h rs)
  | _ => exact dp_of (ρ := ρ) R.gh hk h r
def fEq : F2 := fun a b μ => if plainD 60 a && plainD 60 b then ret (.bl (deq a b)) μ else none
def fNe : F2 := fun a b μ => if plainD 60 a && plainD 60 b then ret (.bl (!deq a b)) μ else none
theorem opd_eq : OpD (tx X) (rEqD X.K) fEq := by
  intro B W σ env ρ G H μ x y d d' Q R hx hy k
  unfold fEq at k
  split at k
  · rename_i h
    simp only [Bool.and_eq_true] at h
    exact ⟨_, _, dp_held R rfl h.1 hx, dp_held R rfl h.2 hy, shaped_of h.1, shaped_of h.2, k.here R (.ofR rep_bl)⟩
  · exact k.elim
theorem opd_ne : OpD (tx X) (rNeD X.K) fNe := by
  intro B W σ env ρ G H μ x y d d' Q R hx hy k
  unfold fNe at k
  split at k
  · rename_i h
    simp only [Bool.and_eq_true] at h
    exact ⟨_, _, dp_held R rfl h.1 hx, dp_held R rfl h.2 hy, shaped_of h.1, shaped_of h.2, k.here R (.ofR rep_bl)⟩
  · exact k.elim
/-- x in a list -/
def fIn (neg : Bool) : F2 := fun a b μ => match seqL b with
  | some l => if plainD 59 a && l.all (plainD 59) then ret (.bl (neg != l.any fun z => deq z a)) μ else none
  | none => none
theorem plain_up : ∀ {d : D} {n : Nat}, plainD n d = true → plainD (n + 1) d = true
  | .non, n, _ => by unfold plainD; rfl
  | .bl b, n, _ => by unfold plainD; rfl
  | .int b, n, _ => by unfold plainD; rfl
  | .str b, n, h => by unfold plainD at h ⊢; exact h
  | .tup l, 0, h => by unfold plainD at h; cases h
  | .tup l, n + 1, h => by
    unfold plainD at h ⊢
    rw [List.all_eq_true] at h ⊢
    intro d hd
    have := List.sizeOf_lt_of_mem hd
    exact plain_up (h d hd)
  | .lst l, 0, h => by unfold plainD at h; cases h
  | .lst l, n + 1, h => by
    unfold plainD at h ⊢
    rw [List.all_eq_true] at h ⊢
    intro d hd
    have := List.sizeOf_lt_of_mem hd
    exact plain_up (h d hd)
  | .bor l, 0, h => by unfold plainD at h; cases h
  | .bor l, n + 1, h => by
    unfold plainD at h ⊢
    rw [List.all_eq_true] at h ⊢
    intro d hd
    have := List.sizeOf_lt_of_mem hd
    exact plain_up (h d hd)
  | .new _, n, h => by unfold plainD at h; cases h
  | .ty _, n, h => by unfold plainD at h; cases h
  | .scr _, n, h => by unfold plainD at h; cases h
  | .ins _ _, n, h => by unfold plainD at h; cases h
  | .exn _ _, n, h => by unfold plainD at h; cases h
  | .obj _, n, h => by unfold plainD at h; cases h
  | .glo _, n, h => by unfold plainD at h; cases h
  | .fn _, n, h => by unfold plainD at h; cases h
  | .rng _ _, n, h => by unfold plainD at h; cases h
  | .lam _ _, n, h => by unfold plainD at h; cases h
  | .clo _ _, n, h => by unfold plainD at h; cases h
theorem toPys_eq : ∀ l : List D, toPys l = l.map toPy
  | [] => by unfold toPys; rfl
  | d :: ds => by unfold toPys; rw [toPys_eq ds]; rfl
theorem any_py (l : List D) (a : D) : ((toPys l).any fun z => PyData.eqv z (toPy a)) = l.any fun z => deq z a := by
  rw [toPys_eq, List.any_map]; rfl
theorem shaped_list {l : List D} (h : l.all (plainD 59) = true) : SeqAt.shaped (.list (toPys l)) = true := by
  have : plainD 60 (.lst l) = true := by unfold plainD; exact h
  have q := shaped_of this
  unfold toPy at q
  exact q
def rIn2 (K : PySem.W.Frag) : R2 := fun x y H Q => rInD K x y H Q
theorem opd_in : OpD (tx X) (rInD X.K) (fIn false) := by
  intro B W σ env ρ G H μ x y d d' Q R hx hy k
  unfold fIn at k
  split at k
  · rename_i l hl
    split at k
    · rename_i h
      simp only [Bool.and_eq_true] at h
      obtain ⟨a, vs, rfl, q, z, rs⟩ := seqL_inv R hy hl
      refine ⟨_, _, dp_held R rfl (plain_up h.1) hx, .lst (.of q) (dps_of (T := tx X) R.gh rfl h.2 rs), shaped_of (plain_up h.1), shaped_list h.2, ?_⟩
      rw [any_py]
      simp only [Bool.false_bne] at k
      exact k.here R (.ofR rep_bl)
    · exact k.elim
  · exact k.elim
theorem opd_notIn : OpD (tx X) (rNotInD X.K) (fIn true) := by
  intro B W σ env ρ G H μ x y d d' Q R hx hy k
  unfold fIn at k
  split at k
  · rename_i l hl
    split at k
    · rename_i h
      simp only [Bool.and_eq_true] at h
      obtain ⟨a, vs, rfl, q, z, rs⟩ := seqL_inv R hy hl
      refine ⟨_, _, dp_held R rfl (plain_up h.1) hx, .lst (.of q) (dps_of (T := tx X) R.gh rfl h.2 rs), shaped_of (plain_up h.1), shaped_list h.2, ?_⟩
      rw [any_py]
      simp only [Bool.true_bne] at k
      exact k.here R (.ofR rep_bl)
    · exact k.elim
  · exact k.elim
/-- is None -/
def isNon : D → Bool
  | .non => true
  | _ => false
theorem isNon_of {d : D} (r : HeldR T ρ G σ env x d) : decide (x = .non) = isNon d := by
  cases d with
  | non => have r : Rep T ρ G x .non := r; unfold Rep at r; subst r; rfl
  | bl b => rw [bl_inv r]; rfl
  | int b => rw [int_inv r]; rfl
  | str b => rw [str_inv r]; rfl
  | ty b => have r : Rep T ρ G x (.ty b) := r; unfold Rep at r; subst r; rfl
  | tup l => obtain ⟨a, vs, rfl, _⟩ := tup_inv r; rfl
  | lst l => obtain ⟨a, vs, rfl, _⟩ := lst_inv r; rfl
  | scr l => have r : Rep T ρ G x (.scr l) := r; unfold Rep at r; obtain ⟨a, vs, rfl, _⟩ := r; rfl
  | new l => have r : Rep T ρ G x (.new l) := r; unfold Rep at r; exact r.elim
  | bor l => obtain ⟨i, p, _, _, rfl⟩ := r; rfl
  | ins c fs => have r : Rep T ρ G x (.ins c fs) := r; unfold Rep at r; obtain ⟨a, C, dx, vf, rfl, _⟩ := r; rfl
  | exn c fs => have r : Rep T ρ G x (.exn c fs) := r; unfold Rep at r; obtain ⟨a, C, dx, vf, rfl, _⟩ := r; rfl
  | obj k => have r : Rep T ρ G x (.obj k) := r; unfold Rep at r; obtain ⟨a, rfl, _⟩ := r; rfl
  | glo k => have r : Rep T ρ G x (.glo k) := r; unfold Rep at r; obtain ⟨a, rfl, _⟩ := r; rfl
  | fn a => have r : Rep T ρ G x (.fn a) := r; unfold Rep at r; subst r; rfl
  | rng _ _ => have r : Rep T ρ G x (.rng _ _) := r; unfold Rep at r; obtain ⟨a, rfl, _⟩ := r; rfl
  | lam _ _ => have r : Rep T ρ G x (.lam _ _) := r; unfold Rep at r; obtain ⟨a, rfl, _⟩ := r; rfl
  | clo _ _ => have r : Rep T ρ G x (.clo _ _) := r; unfold Rep at r; obtain ⟨a, _, _, rfl, _⟩ := r; rfl
def fIs (neg : Bool) : F2
  | d, .non, μ => ret (.bl (neg != isNon d)) μ
  | _, _, _ => none
theorem opd_is : OpD (tx X) (fun x y H Q => y = .non ∧ Q (.bl (decide (x = .non))) H) (fIs false) := by
  intro B W σ env ρ G H μ x y d d' Q R hx hy k
  unfold fIs at k
  split at k
  · have hy : Rep (tx X) ρ G y .non := hy
    unfold Rep at hy; subst hy
    refine ⟨rfl, ?_⟩
    rw [isNon_of hx]
    simp only [Bool.false_bne] at k
    exact k.here R (.ofR rep_bl)
  · exact k.elim
theorem opd_isNot : OpD (tx X) (fun x y H Q => y = .non ∧ Q (.bl (!decide (x = .non))) H) (fIs true) := by
  intro B W σ env ρ G H μ x y d d' Q R hx hy k
  unfold fIs at k
  split at k
  · have hy : Rep (tx X) ρ G y .non := hy
    unfold Rep at hy; subst hy
    refine ⟨rfl, ?_⟩
    rw [isNon_of hx]
    simp only [Bool.true_bne] at k
    exact k.here R (.ofR rep_bl)
  · exact k.elim
/-! ### products -/
def cmul (i j : Int) : Bool := decide (i.natAbs < 18446744073709551616) || decide (j.natAbs < 18446744073709551616)
def repL {α : Type} (n : Nat) (l : List α) : List α := (List.replicate n l).flatten
def fMul : F2
  | .int i, .int j, μ => if cmul i j then ret (.int (i * j)) μ else none
  | .lst l, .int k, μ => if k.natAbs < 1000000 ∧ szl (l.length * k.toNat) then ret (.new (repL k.toNat l)) μ else none
  | .tup l, .int k, μ => if 1 ≤ k ∧ k ≤ 1000 ∧ l.length ≤ 1000 ∧ l ≠ [] then ret (.tup (repL k.toNat l)) μ else none
  | _, _, _ => none
theorem Reps.rep {vs : List V} {l : List D} (r : Reps T ρ G vs l) : ∀ n : Nat, Reps T ρ G (List.replicate n vs).flatten (repL n l)
  | 0 => by simp [repL, Reps]
  | n + 1 => by
    unfold repL
    rw [List.replicate_succ, List.flatten_cons, List.replicate_succ, List.flatten_cons]
    exact r.append (Reps.rep r n)
theorem repL_len {α : Type} (l : List α) : ∀ n : Nat, (repL n l).length = n * l.length
  | 0 => by simp [repL]
  | n + 1 => by
    have := repL_len l n
    unfold repL at this ⊢
    rw [List.replicate_succ, List.flatten_cons, List.length_append, this, Nat.succ_mul]; omega
theorem repL_one {α : Type} (l : List α) : repL 1 l = l := by simp [repL]
theorem tuple_mul_one (l : Addr) (items : Array Value) (n : Nat) (dd : Option Addr) (sl : Array (Option Value)) (u : Tok) :
    Meets (Builtin.«tuple.__mul__» ⟨[.ref l, .int 1 u], []⟩) (fun _ R s => s.heap.get? l = some { cls := .type "tuple", dict := dd, data := .seq items n, slots := sl } ∧ R (.ok (.ret (.ref l))) s) :=
  .of_wp fun prog w A R s h => by
    obtain ⟨hp, g, d, tk, os⟩ := s
    obtain ⟨hl, h⟩ := h
    have f1 := AutoSeq1.idx_int
    wp_walk using wpAny_loadPart' hl
    repeat (first
      | (refine wpAny_ite_false (decide_eq_false (by decide)) ?_; wp_walk using wpAny_loadPart' hl)
      | (refine wpAny_ite_true (decide_eq_true (by simp)) ?_; wp_walk using wpAny_loadPart' hl))
    exact ⟨_, rfl, h⟩
/-- a tuple times 1 is the tuple itself -/
theorem op_rep1 : OpR X (binaryOp .Mult) (fun x y H Q => ∃ l xs, x = .ref l ∧ y = .int 1 ∧ SqT X.K H l xs ∧ Q (.ref l) H) := by
  intro pins s σ H x y v u Q I rx ry h
  obtain ⟨l, xs, rfl, rfl, hT, q⟩ := h
  cases rx
  obtain ⟨t, rfl⟩ := ry
  obtain ⟨its, r, ⟨⟨cls, dd, data, sl⟩, ho, hc, n, hd⟩, hs⟩ := I.tuple hT
  simp only at hc hd
  subst hc hd
  refine wpAny_binaryOp_repeat_ref (T := "tuple") (U := "int") (by decide) ⟨_, ho, rfl⟩ (fun s' => typeIs_int s' 1 t) noFill_tuple_mul F.fills_int_mul F.slot_int_rmul repeat_tuple F.slot_int_index.lookup
    (call_meets F.slot_int_rmul (typeIs_int s 1 t) F.entry_int_rmul (F.args_int_rmul_2 _ _) (int_rmul_tuple 1 t l its.toArray n dd sl)
      ⟨ho, rfl, ⟨_, ho, rfl⟩, call_meets F.slot_tuple_mul ⟨_, ho, rfl⟩ F.entry_tuple_mul (F.args_tuple_mul_2 _ _) (tuple_mul_one l its.toArray n dd sl t) ⟨ho, ?_⟩⟩)
  exact ⟨.ref l, H, I.tok _, rfl, q⟩
def rMulA (K : PySem.W.Frag) : R2 := fun x y H Q => rI CMul (fun i j => .int (i * j)) x y H Q ∨ rRepT K x y H Q ∨ rRep x y H Q ∨ (∃ l xs, x = .ref l ∧ y = .int 1 ∧ SqT K H l xs ∧ Q (.ref l) H)
theorem op_mulA : OpR X (binaryOp .Mult) (rMulA X.K) := op_mul.or (op_repT.or (op_rep.or op_rep1))
theorem cmul_ok {i j : Int} (h : cmul i j = true) : CMul i j := by
  unfold cmul at h
  simp only [Bool.or_eq_true, decide_eq_true_eq] at h
  unfold CMul
  omega
theorem opd_mul : OpD (tx X) (rMulA X.K) fMul := by
  intro B W σ env ρ G H μ x y d d' Q R hx hy k
  unfold fMul at k
  split at k
  · split at k
    · rename_i h
      exact .inl ⟨_, _, int_inv hx, int_inv hy, cmul_ok h, k.here R (.ofR rep_int)⟩
    · exact k.elim
  · rename_i l n
    split at k
    · rename_i h
      obtain ⟨a, vs, rfl, q, z, r⟩ := lst_inv hx
      refine .inr (.inr (.inl ⟨a, n, vs, rfl, int_inv hy, R.gh _ _ q, by omega, by omega, by rw [r.length]; exact szl_line h.2, ?_⟩))
      exact k.newL R (r.rep _) (by rw [repL_len, Nat.mul_comm]; exact h.2)
    · exact k.elim
  · rename_i l n
    split at k
    · rename_i h
      obtain ⟨h1, h2, h3, h4⟩ := h
      obtain ⟨a, vs, rfl, q, z, r⟩ := tup_inv hx
      by_cases e : n = 1
      · subst e
        rw [show ((1 : Int).toNat) = 1 from rfl, repL_one] at k
        exact .inr (.inr (.inr ⟨a, vs, rfl, int_inv hy, (sqG_mono R.gh q).sq, k.here R (.ofR (rep_tup q z r))⟩))
      · have hl := r.length
        refine .inr (.inl ⟨a, n, vs, rfl, int_inv hy, (sqG_mono R.gh q).sq, fun e => h4 ?_, by omega, h2, by omega, k.newT R (r.rep _) ?_⟩)
        · subst e; exact List.length_eq_zero_iff.mp (by simpa using hl.symm)
        · rw [repL_len]
          have : n.toNat * l.length ≤ 1000 * 1000 := Nat.mul_le_mul (by omega) h3
          show _ ≤ 16777216
          omega
    · exact k.elim
  · exact k.elim

/-! ### chains, minus, not -/
def dChain (f g : F2) (ma mb mc : DEx) : DEx := fun env μ => bindR (ma env μ) fun d μ => bindR (mb env μ) fun d' μ => bindR (f (hold d) (hold d') μ) fun b μ => match b with
  | .bl true => bindR (mc env μ) fun d2 μ => g (hold d') (hold d2) μ
  | .bl false => ret (.bl false) μ
  | _ => none
theorem rd_chain {r r' : R2} {f g : F2} {ma mb mc : DEx} (hf : OpD (tx X) r f) (hg : OpD (tx X) r' g) {σ : L2.St} {H : Hp} {Q : VK} (h : rdE (tx X) B W (dChain f g ma mb mc) σ H Q) :
    tChain r r' (rdE (tx X) B W ma) (rdE (tx X) B W mb) (rdE (tx X) B W mc) σ H Q := by
  obtain ⟨ρ, G, env, μ, R, k⟩ := h
  refine rd_then (f := fun d μ => bindR (mb env μ) fun d' μ => bindR (f (hold d) (hold d') μ) fun b μ => match b with
    | .bl true => bindR (mc env μ) fun d2 μ => g (hold d') (hold d2) μ
    | .bl false => ret (.bl false) μ
    | _ => none) R k fun ρ1 G1 H1 μ1 x d s p R1 hx k1 => ?_
  refine rd_then (f := fun d' μ => bindR (f (hold d) (hold d') μ) fun b μ => match b with
    | .bl true => bindR (mc env μ) fun d2 μ => g (hold d') (hold d2) μ
    | .bl false => ret (.bl false) μ
    | _ => none) R1 k1 fun ρ2 G2 H2 μ2 y d' s2 p2 R2 hy k2 => ?_
  refine hf B W σ env ρ2 G2 H2 μ2 x y _ _ _ R2 (hx.mono s2 p2) hy (k2.bind.imp fun ρ3 G3 H3 μ3 z s3 p3 R3 k3 v hv => ?_)
  split at k3
  · have hv : Rep (tx X) ρ3 G3 v (.bl true) := hv
    unfold Rep at hv; subst hv
    refine ⟨true, rfl, ?_⟩
    rw [if_pos rfl]
    refine rd_then (f := fun d2 μ => g (hold d') (hold d2) μ) R3 k3 fun ρ4 G4 H4 μ4 w d2 s4 p4 R4 hw k4 => ?_
    exact hg B W σ env ρ4 G4 H4 μ4 y w _ _ Q R4 ((hy.mono s3 p3).mono s4 p4) hw k4
  · have hv : Rep (tx X) ρ3 G3 v (.bl false) := hv
    unfold Rep at hv; subst hv
    refine ⟨false, rfl, ?_⟩
    rw [if_neg (by decide)]
    exact KE.here (T := tx X) k3 R3 (.ofR rep_bl)
  · exact k3.elim
theorem de_chain {a b c : Expr} {ma mb mc : DEx} {pos : Pos} {op op' : CmpOp} {r r' : R2} {f g : F2} (ho : OpR X (compareOp op) r) (hf : OpD (tx X) r f) (ho' : OpR X (compareOp op') r') (hg : OpD (tx X) r' g) (ha : DE X B W a ma) (hb : DE X B W b mb) (hc : DE X B W c mc)
    (hm : lastMarks [op, op'] [b, c] = false) : DE X B W (.Compare a [op, op'] [b, c] pos) (dChain f g ma mb mc) :=
  ⟨peImp (pe_chain ho ho' ha.run hb.run hc.run hm) fun σ H Q h => rd_chain hf hg h⟩
def fNeg : D → Mu → Res D
  | .int i, μ => ret (.int (-i)) μ
  | _, _ => none
def dNeg (ma : DEx) : DEx := fun env μ => bindR (ma env μ) fNeg
theorem de_neg {a : Expr} {ma : DEx} {pos : Pos} (ha : DE X B W a ma) : DE X B W (.UnaryOp .USub a pos) (dNeg ma) := by
  refine ⟨peImp (pe_un un_neg ha.run) fun σ H Q ⟨ρ, G, env, μ, R, k⟩ => ?_⟩
  refine rd_then (f := fNeg) R k fun ρ1 G1 H1 μ1 x d s p R1 hx k1 => ?_
  unfold fNeg at k1
  split at k1
  · exact ⟨_, int_inv hx, KE.here k1 R1 (.ofR rep_int)⟩
  · exact k1.elim
/-! ### tests -/
def fTest : D → Mu → Res Bool
  | .bl b, μ => ret b μ
  | _, _ => none
/-- an expression that gives a bool, as a test -/
def dTest (m : DEx) : DEnv → Mu → Res Bool := fun env μ => bindR (m env μ) fTest
theorem dt_val {e : Expr} {m : DEx} (h : DE X B W e m) (he : ∀ whole, isTrue e X.env whole = (do let v ← whole; standAt e.pos; holding [v] (truthy v))) : DT X B W e (dTest m) := by
  refine ⟨ptImp (pt_val h.run he) fun σ H Q ⟨ρ, G, env, μ, R, k⟩ => ?_⟩
  refine rd_then (f := fTest) R k fun ρ1 G1 H1 μ1 x d s p R1 hx k1 => ?_
  unfold fTest at k1
  split at k1
  · exact ⟨_, bl_inv hx, k1 ρ1 G1 H1 (fun _ _ h => h) (.refl _) R1⟩
  · exact k1.elim
theorem dt_cmp {a b : Expr} {ma mb : DEx} {pos : Pos} {op : CmpOp} {r : R2} {f : F2} (ho : OpR X (compareOp op) r) (hf : OpD (tx X) r f) (ha : DE X B W a ma) (hb : DE X B W b mb) (hm : behindInMarks op b = false) : DT X B W (.Compare a [op] [b] pos) (dTest (dBin f ma mb)) := by
  refine ⟨ptImp (pt_cmpR ho ha.run hb.run hm) fun σ H Q ⟨ρ, G, env, μ, R, k⟩ => ?_⟩
  show tOp r _ _ σ H _
  refine rd_bin hf ⟨ρ, G, env, μ, R, ?_⟩
  refine (KE.bind (f := fTest) k).imp fun ρ1 G1 H1 μ1 d s p R1 k1 v hv => ?_
  unfold fTest at k1
  split at k1
  · have hv : Rep (tx X) ρ1 G1 v (.bl _) := hv
    unfold Rep at hv
    exact ⟨_, hv, k1 ρ1 G1 H1 (fun _ _ h => h) (.refl _) R1⟩
  · exact k1.elim
theorem dt_chain {a b c : Expr} {ma mb mc : DEx} {pos : Pos} {op op' : CmpOp} {r r' : R2} {f g : F2} (ho : OpR X (compareOp op) r) (hf : OpD (tx X) r f) (ho' : OpR X (compareOp op') r') (hg : OpD (tx X) r' g) (ha : DE X B W a ma) (hb : DE X B W b mb) (hc : DE X B W c mc)
    (hm : lastMarks [op, op'] [b, c] = false) : DT X B W (.Compare a [op, op'] [b, c] pos) (dTest (dChain f g ma mb mc)) := by
  refine ⟨ptImp (pt_chain ho ho' ha.run hb.run hc.run hm) fun σ H Q ⟨ρ, G, env, μ, R, k⟩ => ?_⟩
  show tChain r r' _ _ _ σ H _
  refine rd_chain hf hg ⟨ρ, G, env, μ, R, ?_⟩
  refine (KE.bind (f := fTest) k).imp fun ρ1 G1 H1 μ1 d s p R1 k1 v hv => ?_
  unfold fTest at k1
  split at k1
  · have hv : Rep (tx X) ρ1 G1 v (.bl _) := hv
    unfold Rep at hv
    exact ⟨_, hv, k1 ρ1 G1 H1 (fun _ _ h => h) (.refl _) R1⟩
  · exact k1.elim
def dNotT (m : DEnv → Mu → Res Bool) : DEnv → Mu → Res Bool := fun env μ => bindR (m env μ) fun b μ => ret (!b) μ
theorem dt_not {a : Expr} {m : DEnv → Mu → Res Bool} {pos : Pos} (h : DT X B W a m) : DT X B W (.UnaryOp .Not a pos) (dNotT m) := by
  refine ⟨ptImp (pt_not h.run) fun σ H Q ⟨ρ, G, env, μ, R, k⟩ => ⟨ρ, G, env, μ, R, k.bind.imp fun ρ1 G1 H1 μ1 b s p R1 k1 => ?_⟩⟩
  exact k1 ρ1 G1 H1 (fun _ _ h => h) (.refl _) R1
def dAndT (m n : DEnv → Mu → Res Bool) : DEnv → Mu → Res Bool := fun env μ => bindR (m env μ) fun b μ => if b = true then n env μ else ret false μ
def dOrT (m n : DEnv → Mu → Res Bool) : DEnv → Mu → Res Bool := fun env μ => bindR (m env μ) fun b μ => if b = true then ret true μ else n env μ
section
variable {a b : Expr} {rest : List Expr} {m n : DEnv → Mu → Res Bool} {pos : Pos}
theorem dw_and1 (h : DT X B W a m) : DW X B W (.BoolOp .And [a] pos) m := ⟨pw_and1 h.run⟩
theorem dw_or1 (h : DT X B W a m) : DW X B W (.BoolOp .Or [a] pos) m := ⟨pw_or1 h.run⟩
theorem dw_and (h : DT X B W a m) (g : DW X B W (.BoolOp .And (b :: rest) pos) n) : DW X B W (.BoolOp .And (a :: b :: rest) pos) (dAndT m n) := by
  refine ⟨pwImp (pw_and h.run g.run) fun σ H Q ⟨ρ, G, env, μ, R, k⟩ => ⟨ρ, G, env, μ, R, k.bind.imp fun ρ1 G1 H1 μ1 b s p R1 k1 => ?_⟩⟩
  cases b with
  | true => exact ⟨ρ1, G1, env, μ1, R1, k1⟩
  | false => exact k1 ρ1 G1 H1 (fun _ _ h => h) (.refl _) R1
theorem dw_or (h : DT X B W a m) (g : DW X B W (.BoolOp .Or (b :: rest) pos) n) : DW X B W (.BoolOp .Or (a :: b :: rest) pos) (dOrT m n) := by
  refine ⟨pwImp (pw_or h.run g.run) fun σ H Q ⟨ρ, G, env, μ, R, k⟩ => ⟨ρ, G, env, μ, R, k.bind.imp fun ρ1 G1 H1 μ1 b s p R1 k1 => ?_⟩⟩
  cases b with
  | false => exact ⟨ρ1, G1, env, μ1, R1, k1⟩
  | true => exact k1 ρ1 G1 H1 (fun _ _ h => h) (.refl _) R1
theorem dw_t (h : DW X B W a m) : DT X B W a m := ⟨h.run.pt⟩
end
/-! ### and, or, not, a choice, as values -/
def fB (m : D → Mu → Res D) : D → Mu → Res D := m
def dAndV (ma mb : DEx) : DEx := fun env μ => bindR (ma env μ) fun d μ => match d with
  | .bl true => mb env μ
  | .bl false => ret (.bl false) μ
  | _ => none
def dOrV (ma mb : DEx) : DEx := fun env μ => bindR (ma env μ) fun d μ => match d with
  | .bl false => mb env μ
  | .bl true => ret (.bl true) μ
  | _ => none
def dNotV (ma : DEx) : DEx := fun env μ => bindR (ma env μ) fun d μ => match d with
  | .bl b => ret (.bl (!b)) μ
  | _ => none
def dIf (t : DEnv → Mu → Res Bool) (ma mb : DEx) : DEx := fun env μ => bindR (t env μ) fun b μ => if b = true then ma env μ else mb env μ
section
variable {a b c : Expr} {rest : List Expr} {ma mb : DEx} {t : DEnv → Mu → Res Bool} {pos : Pos}
theorem repx_bl {v : V} {z : Bool} (h : RepX T B ρ G H σ env v (.bl z)) : v = .bl z := by
  have h : Rep T ρ G v (.bl z) := h
  unfold Rep at h; exact h
theorem de_one {op} (h : DE X B W a ma) : DE X B W (.BoolOp op [a] pos) ma := ⟨pe_one h.run⟩
theorem de_and (h : DE X B W a ma) (g : DE X B W (.BoolOp .And (b :: rest) pos) mb) : DE X B W (.BoolOp .And (a :: b :: rest) pos) (dAndV ma mb) := by
  refine ⟨peImp (pe_and h.run g.run) fun σ H Q ⟨ρ, G, env, μ, R, k⟩ => ⟨ρ, G, env, μ, R, k.bind.imp fun ρ1 G1 H1 μ1 d s p R1 k1 v hv => ?_⟩⟩
  split at k1
  · exact ⟨true, repx_bl hv, by rw [if_pos rfl]; exact ⟨ρ1, G1, env, μ1, R1, k1⟩⟩
  · exact ⟨false, repx_bl hv, by rw [if_neg (by decide)]; exact KE.here (T := tx X) k1 R1 (.ofR rep_bl)⟩
  · exact k1.elim
theorem de_or (h : DE X B W a ma) (g : DE X B W (.BoolOp .Or (b :: rest) pos) mb) : DE X B W (.BoolOp .Or (a :: b :: rest) pos) (dOrV ma mb) := by
  refine ⟨peImp (pe_or h.run g.run) fun σ H Q ⟨ρ, G, env, μ, R, k⟩ => ⟨ρ, G, env, μ, R, k.bind.imp fun ρ1 G1 H1 μ1 d s p R1 k1 v hv => ?_⟩⟩
  split at k1
  · exact ⟨false, repx_bl hv, by rw [if_neg (by decide)]; exact ⟨ρ1, G1, env, μ1, R1, k1⟩⟩
  · exact ⟨true, repx_bl hv, by rw [if_pos rfl]; exact KE.here (T := tx X) k1 R1 (.ofR rep_bl)⟩
  · exact k1.elim
theorem de_not (h : DE X B W a ma) : DE X B W (.UnaryOp .Not a pos) (dNotV ma) := by
  refine ⟨peImp (pe_not h.run) fun σ H Q ⟨ρ, G, env, μ, R, k⟩ => ⟨ρ, G, env, μ, R, k.bind.imp fun ρ1 G1 H1 μ1 d s p R1 k1 v hv => ?_⟩⟩
  split at k1
  · exact ⟨_, repx_bl hv, KE.here (T := tx X) k1 R1 (.ofR rep_bl)⟩
  · exact k1.elim
theorem de_if (h : DT X B W c t) (ha : DE X B W a ma) (hb : DE X B W b mb) : DE X B W (.IfExp c a b pos) (dIf t ma mb) := by
  refine ⟨peImp (pe_ifExp h.run ha.run hb.run) fun σ H Q ⟨ρ, G, env, μ, R, k⟩ => ⟨ρ, G, env, μ, R, k.bind.imp fun ρ1 G1 H1 μ1 b s p R1 k1 => ?_⟩⟩
  cases b with
  | true => exact ⟨ρ1, G1, env, μ1, R1, k1⟩
  | false => exact ⟨ρ1, G1, env, μ1, R1, k1⟩
end
/-! ### arguments, displays -/
def dNil : DEnv → Mu → Res (List D) := fun _ μ => ret [] μ
def dCons (m : DEx) (n : DEnv → Mu → Res (List D)) : DEnv → Mu → Res (List D) := fun env μ => bindR (m env μ) fun d μ => bindR (n env μ) fun ds μ => ret (hold d :: ds) μ
section
variable {e : Expr} {es : List Expr} {m : DEx} {n : DEnv → Mu → Res (List D)} {pos : Pos}
theorem da_nil : DA X B W [] dNil := ⟨paImp pa_nil fun σ H Q ⟨ρ, G, env, μ, R, k⟩ => k ρ G H (fun _ _ h => h) (.refl _) R [] .nil⟩
theorem da_cons (h : DE X B W e m) (g : DA X B W es n) (hs : starEach (e :: es) X.env = (false, eval e X.env) :: starEach es X.env := by rfl) : DA X B W (e :: es) (dCons m n) := by
  refine ⟨paImp (pa_cons h.run g.run hs) fun σ H Q ⟨ρ, G, env, μ, R, k⟩ => ?_⟩
  refine rd_then (f := fun d μ => bindR (n env μ) fun ds μ => ret (hold d :: ds) μ) R k fun ρ1 G1 H1 μ1 x d s p R1 hx k1 => ?_
  refine ⟨ρ1, G1, env, μ1, R1, (KE.bind (f := fun ds μ => ret (hold d :: ds) μ) k1).imp fun ρ2 G2 H2 μ2 ds s2 p2 R2 k2 vs hvs => ?_⟩
  exact k2 ρ2 G2 H2 (fun _ _ h => h) (.refl _) R2 _ (.cons (hx.mono s2 p2) hvs)
def fTup (l : List D) (μ : Mu) : Res D := if l.all nobor = true ∧ szl l.length then ret (.tup l) μ else none
def fLst (l : List D) (μ : Mu) : Res D := if l.all nobor = true ∧ szl l.length then ret (.new l) μ else none
def dTup (n : DEnv → Mu → Res (List D)) : DEx := fun env μ => bindR (n env μ) fTup
def dLst (n : DEnv → Mu → Res (List D)) : DEx := fun env μ => bindR (n env μ) fLst
theorem de_tup {x1} (h : DA X B W es n) : DE X B W (.Tuple es x1 pos) (dTup n) := by
  refine ⟨peImp (pe_tup h.run) fun σ H Q ⟨ρ, G, env, μ, R, k⟩ => ⟨ρ, G, env, μ, R, (KE.bind (f := fTup) k).imp fun ρ1 G1 H1 μ1 ds s p R1 k1 vs hvs => ?_⟩⟩
  unfold fTup at k1
  split at k1
  · rename_i hz
    have r := hvs.reps hz.1
    exact ⟨by rw [r.length]; exact szl_line hz.2, k1.newT R1 r hz.2⟩
  · exact k1.elim
theorem de_lst (h : DA X B W es n) : DE X B W (.List es pos) (dLst n) := by
  refine ⟨peImp (pe_lst h.run) fun σ H Q ⟨ρ, G, env, μ, R, k⟩ => ⟨ρ, G, env, μ, R, (KE.bind (f := fLst) k).imp fun ρ1 G1 H1 μ1 ds s p R1 k1 vs hvs => ?_⟩⟩
  unfold fLst at k1
  split at k1
  · rename_i hz
    have r := hvs.reps hz.1
    exact ⟨by rw [r.length]; exact szl_line hz.2, k1.newL R1 r hz.2⟩
  · exact k1.elim
end
end
end Dv

/-! DvD: what is walked: lists, tuples, ranges, texts; zip and enumerate of any mix. -/
namespace Dv
open PySem PySem.Spec PyProof.Rows L2
/-! ### sources: a list or a tuple -/
def atS : Bool → Heap → Addr → Addr → Nat → Prop
  | true, h, it, a, i => h.IsListIter it a i
  | false, h, it, a, i => h.IsTupleIter it a i
def hasS : Bool → Heap → Addr → Array Value → Prop
  | true, h, a, xs => h.IsList a xs
  | false, h, a, xs => h.IsTuple a xs
def SqS (K : PySem.W.Frag) (H : Hp) : Bool → Addr → List V → Prop
  | true, a, xs => SqL K H a xs
  | false, a, xs => SqT K H a xs
theorem drawsS {prog : Program} {w : World} {A : Around} (hh : A.handled = none) (k : Bool) (it a : Addr) (hne : a ≠ it) (items : Array Value) :
    Draws prog w A it [it, a] items.size (fun i v => items[i]? = some v) (fun i h => atS k h it a i ∧ hasS k h a items) := by
  cases k with
  | true => exact Draws.list hh it a hne items
  | false => exact Draws.tuple hh it a hne items
def objS (k : Bool) (a : Addr) : Obj := { cls := .type (if k then "list_iterator" else "tuple_iterator"), data := .fields #[.ref a, .int 0 0] }
theorem beginsS (k : Bool) (a : Addr) (items : Array Value) : Begins (.ref a) (objS k a) fun h => hasS k h a items := by
  cases k with
  | true => exact begins_list a items
  | false => exact begins_tuple a items
section
variable {X : Cx} {pins : List (Addr × Obj)} {σ : L2.St} {H : Hp} {s : Shared} {a : Addr} {xs ys : List V}
theorem hasS_of (I : Inv X pins σ H s) {k : Bool} (h : SqS X.K H k a xs) : ∃ its : List Value, Vals xs its ∧ hasS k s.heap a its.toArray ∧ xs.length ≤ sizeLine := by
  cases k with
  | true =>
    obtain ⟨its, r, p, z⟩ := I.list h
    exact ⟨its, r, p.isList, z⟩
  | false =>
    obtain ⟨its, r, p, z⟩ := I.tuple h
    exact ⟨its, r, p, z⟩
theorem sqS_inj (I : Inv X pins σ H s) {k : Bool} (h : SqS X.K H k a xs) (h' : SqS X.K H k a ys) : xs = ys := by
  cases k with
  | true => exact I.list_inj h h'
  | false => exact I.tuple_inj h h'
end
theorem atS_at {k : Bool} {h h' : Heap} {it a : Addr} {i : Nat} (x : atS k h it a i) (e : ∀ o, h.get? it = some o → h'.get? it = some o) : atS k h' it a i := by
  cases k with
  | true => exact Heap.IsListIter.at x e
  | false => exact Heap.IsTupleIter.at x e
theorem atS_obj {k : Bool} {h : Heap} {it a : Addr} {i : Nat} (x : atS k h it a i) : ∃ o, h.get? it = some o ∧ ∀ v, o.data ≠ .cell v := by
  cases k with
  | true =>
    obtain ⟨o, e, _, d⟩ := x
    exact ⟨o, e, fun v z => by rw [d] at z; cases z⟩
  | false =>
    obtain ⟨o, e, _, d⟩ := x
    exact ⟨o, e, fun v z => by rw [d] at z; cases z⟩
theorem atS_new {k : Bool} {h : Heap} {it a : Addr} (e : h.get? it = some (objS k a)) : atS k h it a 0 := by
  cases k with
  | true => exact ⟨_, e, rfl, rfl⟩
  | false => exact ⟨_, e, rfl, rfl⟩
/-! ### zip of two sources -/
def ItZ (K : PySem.W.Frag) (k1 k2 : Bool) (a b : Addr) : It :=
  ⟨fun i H => ∃ (xs ys : List V) (x y : V), SqS K H k1 a xs ∧ SqS K H k2 b ys ∧ xs[i]? = some x ∧ ys[i]? = some y,
    fun i H v H' => ∃ T x y, v = .ref T ∧ H T = none ∧ H' = upd H T (.tup [x, y]) ∧ (∀ xs, SqS K H k1 a xs → xs[i]? = some x) ∧ ∀ ys, SqS K H k2 b ys → ys[i]? = some y,
    fun i H => ∃ xs ys : List V, SqS K H k1 a xs ∧ SqS K H k2 b ys ∧ min xs.length ys.length = i⟩
/-- a pair that is told at T -/
theorem pair_new {P : Program} {w : World} {H : Hp} {h : Heap} {T : Addr} {x y : V} {u v : Value} (hT : h.IsTuple T #[u, v]) (ru : RelV x u) (rv : RelV y v) : ObjOk P w (upd H T (.tup [x, y])) h T (.tup [x, y]) :=
  ⟨by show 2 ≤ sizeLine; decide, [u, v], .cons ru (.cons rv .nil), hT⟩
theorem turnZ {P : Program} {w : World} {K : PySem.W.Frag} {elts : List Expr} {kk : Nat} {tpos : Pos} {k1 k2 : Bool} {a b z TI TO i1 i2 : Addr} (D : ZipSep2 z TI TO i1 i2 [i1, a] [i2, b]) (n1 : a ≠ i1) (n2 : b ≠ i2) :
    Turn P w K (.Tuple elts kk tpos) (ItZ K k1 k2 a b) [z, TI, TO, i1, i2] z (fun i h => IsZip h z TI TO .none ∧ IsTupOf2 h TI (.ref i1) (.ref i2) ∧ (∃ x y, IsTupOf2 h TO x y) ∧ atS k1 h i1 a i ∧ atS k2 h i2 b i) where
  mem := by simp
  obj := fun i h st c hc => by
    obtain ⟨hz, hTI, ⟨x, y, hTO⟩, h1, h2⟩ := st
    have e' : c = z ∨ c = TI ∨ c = TO ∨ c = i1 ∨ c = i2 := by simpa using hc
    rcases e' with q | q | q | q | q
    · rw [q]; exact ⟨_, hz, fun v q => nomatch q⟩
    · rw [q]; exact ⟨_, hTI, fun v q => nomatch q⟩
    · rw [q]; exact ⟨_, hTO, fun v q => nomatch q⟩
    · rw [q]; exact atS_obj h1
    · rw [q]; exact atS_obj h2
  keep := fun i h h' st k => by
    obtain ⟨hz, hTI, ⟨x, y, hTO⟩, h1, h2⟩ := st
    exact ⟨k z (by simp) _ hz, k TI (by simp) _ hTI, ⟨x, y, k TO (by simp) _ hTO⟩, atS_at h1 fun o q => k i1 (by simp) o q, atS_at h2 fun o q => k i2 (by simp) o q⟩
  item := by
    intro X hP hw hK hc i pins s σ H E I hf st hg
    subst hP hw hK
    obtain ⟨hz, hTI, hTO, h1, h2⟩ := st
    obtain ⟨xs, ys, x, y, hqx, hqy, hx, hy⟩ := hg
    obtain ⟨its, rv, p, _⟩ := hasS_of I hqx
    obtain ⟨its2, rv2, p2, _⟩ := hasS_of I hqy
    have hh : X.A.in1.handled = none := I.ok.hd hc
    have l1 := rv.length
    have l2 := rv2.length
    have b1 := (List.getElem?_eq_some_iff.mp hx).1
    have b2 := (List.getElem?_eq_some_iff.mp hy).1
    refine (GoesN.zip2 (prog := X.prog) (w := X.w) (A := X.A) (elts := elts) (x1 := kk) (pos := tpos) D (drawsS hh k1 i1 a n1 its.toArray) (drawsS hh k2 i2 b n2 its2.toArray)).goes i s _ E (by simp only [List.size_toArray]; omega) ⟨hz, hTI, hTO, ⟨h1, p⟩, ⟨h2, p2⟩⟩ fun v h' tk hY st' hk _ => ?_
    obtain ⟨T, u, u2, rfl, hT, e1, e2, hTT⟩ := hY
    obtain ⟨z', TI', TO', ⟨h1', _⟩, ⟨h2', _⟩⟩ := st'
    have ru : RelV x u := by
      obtain ⟨u', q1, q2⟩ := rv.get hx
      have : its[i]? = some u := by simpa using e1
      rw [this] at q1; cases q1; exact q2
    have ru2 : RelV y u2 := by
      obtain ⟨u', q1, q2⟩ := rv2.get hy
      have : its2[i]? = some u2 := by simpa using e2
      rw [this] at q1; cases q1; exact q2
    have I1 : Inv X pins σ (upd H T (.tup [x, y])) { s with heap := h', toks := tk } :=
      Inv.turnedNew (ch := [z, TO, i1, i2]) I (fun c o hb q => hk c o hb q) (fun c hc => hf c (by simp at hc ⊢; rcases hc with q | q | q | q <;> simp [q])) hT (pair_new hTT ru ru2)
    refine ⟨.ref T, _, I1, rfl, ⟨T, x, y, rfl, I.hok.fresh hT, rfl, fun l hl => by rw [sqS_inj I hl hqx]; exact hx, fun l hl => by rw [sqS_inj I hl hqy]; exact hy⟩, ⟨z', TI', TO', h1', h2'⟩, fun c hcm => ?_⟩
    have hlt : c < s.heap.objs.size := by
      obtain ⟨o, e, _⟩ : ∃ o, s.heap.get? c = some o ∧ True := by
        have e' : c = z ∨ c = TI ∨ c = TO ∨ c = i1 ∨ c = i2 := by simpa using hcm
        obtain ⟨x0, y0, hTO⟩ := hTO
        rcases e' with q | q | q | q | q
        · rw [q]; exact ⟨_, hz, trivial⟩
        · rw [q]; exact ⟨_, hTI, trivial⟩
        · rw [q]; exact ⟨_, hTO, trivial⟩
        · rw [q]; obtain ⟨o, e, _⟩ := atS_obj h1; exact ⟨o, e, trivial⟩
        · rw [q]; obtain ⟨o, e, _⟩ := atS_obj h2; exact ⟨o, e, trivial⟩
      exact Heap.lt_size e
    rw [upd_ne (Nat.ne_of_lt (Nat.lt_of_lt_of_le hlt hT))]
    exact (hf c hcm).1
  done := by
    intro X hP hw hK hc i pins s σ H E I hf st hg
    subst hP hw hK
    obtain ⟨hz, hTI, hTO, h1, h2⟩ := st
    obtain ⟨xs, ys, hqx, hqy, hend⟩ := hg
    obtain ⟨its, rv, p, _⟩ := hasS_of I hqx
    obtain ⟨its2, rv2, p2, _⟩ := hasS_of I hqy
    have hh : X.A.in1.handled = none := I.ok.hd hc
    have l1 := rv.length
    have l2 := rv2.length
    have e : min its.toArray.size its2.toArray.size = i := by simp only [List.size_toArray]; omega
    subst e
    exact (GoesN.zip2 (prog := X.prog) (w := X.w) (A := X.A) (elts := elts) (x1 := kk) (pos := tpos) D (drawsS hh k1 i1 a n1 its.toArray) (drawsS hh k2 i2 b n2 its2.toArray)).stops s _ E ⟨hz, hTI, hTO, ⟨h1, p⟩, ⟨h2, p2⟩⟩ fun h' tk hk _ =>
      Inv.turnedL (ch := [z, TO, i1, i2]) I (fun c o hb q => hk c o hb q) (fun c hc => hf c (by simp at hc ⊢; rcases hc with q | q | q | q <;> simp [q]))
  self := fun A i s Q E st h => wpAny_pyIter_zip st.1 h
def iZipS (K : PySem.W.Frag) (ta : TA) : TI := fun σ H R => ta σ H fun vs H1 => ∃ (k1 k2 : Bool) (a b : Addr) (xs ys : List V), vs = [.ref a, .ref b] ∧ SqS K H1 k1 a xs ∧ SqS K H1 k2 b ys ∧ R (ItZ K k1 k2 a b) H1
theorem hasS_lt {k : Bool} {h : Heap} {a : Addr} {xs : Array Value} (x : hasS k h a xs) : a < h.objs.size := by
  cases k with
  | true => obtain ⟨o, e, _⟩ := x; exact Heap.lt_size e
  | false => obtain ⟨o, e, _⟩ := x; exact Heap.lt_size e
theorem pi_zipS {X : Cx} {e e2 : Expr} {ta : TA} {p pos tpos : Pos} {elts : List Expr} {kk : Nat} (hg : Gl X "zip") (hm : X.mg "zip" = none) (ha : PA X [e, e2] ta)
    (hs : starEach [e, e2] X.env = (false, eval e X.env) :: starEach [e2] X.env := by rfl) (hpl : (backTo pos (starEach [e2] X.env)).any (·.1) = false := by rfl) :
    PI X (.Tuple elts kk tpos) (.Call (.Name "zip" p) [e, e2] [] pos) (iZipS X.K ta) := by
  refine ⟨fun pins s σ H R I h => ?_⟩
  refine Call_ (ld_blt I hg hm PyProof.Rows.boot_zip (PyProof.Rows.callWith_type1 (thn (ha.run pos pins s σ H _ I h) fun us s1 ⟨vs, H1, I1, r1, q1⟩ => ?_) hs hpl))
  obtain ⟨k1, k2, a, b, xs, ys, ex, hqx, hqy, q⟩ := q1
  subst ex
  obtain ⟨u, u2, rfl, ru, ru2⟩ := vals2 r1
  cases ru
  cases ru2
  obtain ⟨its, rv, p1, _⟩ := hasS_of I1 hqx
  obtain ⟨its2, rv2, p2, _⟩ := hasS_of I1 hqy
  have la := hasS_lt p1
  have lb := hasS_lt p2
  refine zip_begins2 (beginsS k1 a its.toArray) (beginsS k2 b its2.toArray) p1 p2 fun h' hz hTI hTO h1 h2 hsz hk => ?_
  refine wpAny_pyIter_zip hz ?_
  have I2 : Inv X pins σ H1 { s1 with heap := h' } := I1.kept (t' := s1.toks) hk
  refine ⟨_, [s1.heap.objs.size + 4, s1.heap.objs.size + 2, s1.heap.objs.size + 3, s1.heap.objs.size, s1.heap.objs.size + 1], _, _, H1, rfl, I2, turnZ (k1 := k1) (k2 := k2) (zip_sep2 (fp1 := [a]) (fp2 := [b]) (by simpa using la) (by simpa using lb)) (Nat.ne_of_lt la) (Nat.ne_of_lt (Nat.lt_succ_of_lt lb)),
    ⟨hz, hTI, ⟨_, _, hTO⟩, atS_new h1, atS_new h2⟩, fun c hc => ?_, q⟩
  have hle : s1.heap.objs.size ≤ c := by
    simp only [List.mem_cons, List.not_mem_nil, or_false] at hc
    rcases hc with z | z | z | z | z <;> (rw [z]; first | exact Nat.le_refl _ | exact Nat.le_add_right _ _)
  exact I1.fpOk hle (I1.hok.fresh hle)
/-! ### enumerate of a source -/
def ItE (K : PySem.W.Frag) (k : Bool) (a : Addr) : It :=
  ⟨fun i H => ∃ (xs : List V) (x : V), SqS K H k a xs ∧ xs[i]? = some x,
    fun i H v H' => ∃ T x, v = .ref T ∧ H T = none ∧ H' = upd H T (.tup [.int (i : Nat), x]) ∧ ∀ xs, SqS K H k a xs → xs[i]? = some x,
    fun i H => ∃ xs : List V, SqS K H k a xs ∧ xs.length = i⟩
theorem turnE {P : Program} {w : World} {K : PySem.W.Frag} {elts : List Expr} {kk : Nat} {tpos : Pos} {k : Bool} {a e it : Addr} (n1 : a ≠ it) (hei : e ≠ it) (hea : e ≠ a) :
    Turn P w K (.Tuple elts kk tpos) (ItE K k a) [e, it] e (fun i h => (∃ old, IsEnum h e it (0 + ((i : Nat) : Int)) old) ∧ atS k h it a i) where
  mem := by simp
  obj := fun i h st c hc => by
    obtain ⟨⟨old, he⟩, h1⟩ := st
    have e' : c = e ∨ c = it := by simpa using hc
    rcases e' with q | q
    · rw [q]; exact ⟨_, he, fun v q => nomatch q⟩
    · rw [q]; exact atS_obj h1
  keep := fun i h h' st k => by
    obtain ⟨⟨old, he⟩, h1⟩ := st
    exact ⟨⟨old, k e (by simp) _ he⟩, atS_at h1 fun o q => k it (by simp) o q⟩
  item := by
    intro X hP hw hK hc i pins s σ H E I hf st hg
    subst hP hw hK
    obtain ⟨he, h1⟩ := st
    obtain ⟨xs, x, hqx, hx⟩ := hg
    obtain ⟨its, rv, p, _⟩ := hasS_of I hqx
    have hh : X.A.in1.handled = none := I.ok.hd hc
    have l1 := rv.length
    have b1 := (List.getElem?_eq_some_iff.mp hx).1
    refine (GoesN.enumFrom (prog := X.prog) (w := X.w) (A := X.A) (elts := elts) (x1 := kk) (pos := tpos) 0 (drawsS hh k it a n1 its.toArray) e hei (by simp [hei, hea]) (by simp)).goes i s _ E (by simp only [List.size_toArray]; omega) ⟨he, h1, p⟩ fun v h' tk hY st' hk _ => ?_
    obtain ⟨T, t, u, rfl, hT, e1, hTT⟩ := hY
    obtain ⟨he', h1', _⟩ := st'
    have ru : RelV x u := by
      obtain ⟨u', q1, q2⟩ := rv.get hx
      have : its[i]? = some u := by simpa using e1
      rw [this] at q1; cases q1; exact q2
    have I1 : Inv X pins σ (upd H T (.tup [.int (i : Nat), x])) { s with heap := h', toks := tk } :=
      Inv.turnedNew (ch := [e, it]) I (fun c o hb q => hk c o hb q) hf hT (pair_new hTT ⟨t, by rw [Int.zero_add]⟩ ru)
    refine ⟨.ref T, _, I1, rfl, ⟨T, x, rfl, I.hok.fresh hT, rfl, fun l hl => by rw [sqS_inj I hl hqx]; exact hx⟩, ⟨he', h1'⟩, fun c hcm => ?_⟩
    have hlt : c < s.heap.objs.size := by
      obtain ⟨o, e, _⟩ : ∃ o, s.heap.get? c = some o ∧ True := by
        have e' : c = e ∨ c = it := by simpa using hcm
        obtain ⟨old, he⟩ := he
        rcases e' with q | q
        · rw [q]; exact ⟨_, he, trivial⟩
        · rw [q]; obtain ⟨o, e, _⟩ := atS_obj h1; exact ⟨o, e, trivial⟩
      exact Heap.lt_size e
    rw [upd_ne (Nat.ne_of_lt (Nat.lt_of_lt_of_le hlt hT))]
    exact (hf c hcm).1
  done := by
    intro X hP hw hK hc i pins s σ H E I hf st hg
    subst hP hw hK
    obtain ⟨he, h1⟩ := st
    obtain ⟨xs, hqx, hend⟩ := hg
    obtain ⟨its, rv, p, _⟩ := hasS_of I hqx
    have hh : X.A.in1.handled = none := I.ok.hd hc
    have l1 := rv.length
    have e : its.toArray.size = i := by simp only [List.size_toArray]; omega
    subst e
    exact (GoesN.enumFrom (prog := X.prog) (w := X.w) (A := X.A) (elts := elts) (x1 := kk) (pos := tpos) 0 (drawsS hh k it a n1 its.toArray) e hei (by simp [hei, hea]) (by simp)).stops s _ E ⟨he, h1, p⟩ fun h' tk hk _ =>
      Inv.turnedL (ch := [e, it]) I (fun c o hb q => hk c o hb q) hf
  self := fun A i s Q E st h => by
    obtain ⟨⟨old, he⟩, _⟩ := st
    exact wpAny_pyIter_enum he h
/-- enumerate(v), v by how its iterator begins -/
theorem meets_enum1 {v : Value} {o : Obj} {H : Heap → Prop} (B : Begins v o H) :
    Meets (Builtin.«enumerate.__new__» ⟨[.type "enumerate", v], []⟩) (fun _ R s => H s.heap ∧
      R (.ok (.ret (.ref (s.heap.push o).objs.size))) { s with heap := (s.heap.push o).push { cls := .type "enumerate", data := .fields #[.none, .bool false, .ref s.heap.objs.size, rawInt 0, .none, .none] } }) :=
  .of_wp fun prog w A R s h => by
    obtain ⟨hp, g, d, tk, os⟩ := s
    obtain ⟨h1, h⟩ := h
    have hsub := sub_enumerate
    have q1 : ∀ {A' : Around} {E' : Value → Shared → Prop} {Q' : Value → Shared → Prop}, Q' (.ref hp.objs.size) ⟨hp.push o, g, d, tk, os⟩ → wpAny (model prog w) A' (pyIter v) Q' E' ⟨hp, g, d, tk, os⟩ :=
      fun q => B.iter prog w _ _ ⟨hp, g, d, tk, os⟩ _ h1 q
    wp_walk using q1
    refine wpAny_stack_any fun st' => wpAny_pure ?_
    split
    · rename_i c' _ _ _ _ _
      cases (c' == Value.type "enumerate") <;> (wp_walk using q1; exact ⟨_, rfl, h⟩)
    · wp_walk using q1
      exact ⟨_, rfl, h⟩
theorem enum_begins1 {prog : Program} {w : World} {A : Around} {E : Value → Shared → Prop} {s : Shared} {v : Value} {o : Obj} {H : Heap → Prop} {Q : Value → Shared → Prop} (B : Begins v o H) (h1 : H s.heap)
    (h : ∀ h', IsEnum h' (s.heap.objs.size + 1) s.heap.objs.size 0 .none → h'.get? s.heap.objs.size = some o → h'.objs.size = s.heap.objs.size + 2 →
      (∀ b' o', s.heap.get? b' = some o' → h'.get? b' = some o') → Q (.ref (s.heap.objs.size + 1)) { s with heap := h' }) :
    wpAny (model prog w) A (call (.type "enumerate") [v]) Q E s := by
  refine callType_new F.called_enumerate (by decide) (F.typeCall_enumerate_1 _) (F.newCall_enumerate_1 _) (fun obj' => F.args_object_init_2 obj' _) F.entry_enumerate_new (meets_enum1 B) ⟨h1, ?_⟩
  have hz : (s.heap.push o).objs.size = s.heap.objs.size + 1 := Heap.size_push ..
  show _ ∧ _
  rw [hz]
  have he : IsEnum ((s.heap.push o).push { cls := .type "enumerate", data := .fields #[.none, .bool false, .ref s.heap.objs.size, rawInt 0, .none, .none] }) (s.heap.objs.size + 1) s.heap.objs.size 0 .none := by
    have e1 := Heap.get?_push_size (s.heap.push o) (o := { cls := .type "enumerate", data := .fields #[.none, .bool false, .ref s.heap.objs.size, rawInt 0, .none, .none] }) rfl
    rw [hz] at e1; exact e1
  exact ⟨⟨_, he, rfl⟩, h _ he (Heap.get?_push_of_some _ (Heap.get?_push_size _ B.free)) (by rw [Heap.size_push, hz]) fun b' o' x' => Heap.get?_push_of_some _ (Heap.get?_push_of_some _ x')⟩
def iEnumS (K : PySem.W.Frag) (ta : TA) : TI := fun σ H R => ta σ H fun vs H1 => ∃ (k : Bool) (a : Addr) (xs : List V), vs = [.ref a] ∧ SqS K H1 k a xs ∧ R (ItE K k a) H1
theorem pi_enumS {X : Cx} {e : Expr} {ta : TA} {p pos tpos : Pos} {elts : List Expr} {kk : Nat} (hg : Gl X "enumerate") (hm : X.mg "enumerate" = none) (ha : PA X [e] ta) (hs : starEach [e] X.env = [(false, eval e X.env)] := by rfl) :
    PI X (.Tuple elts kk tpos) (.Call (.Name "enumerate" p) [e] [] pos) (iEnumS X.K ta) := by
  refine ⟨fun pins s σ H R I h => ?_⟩
  refine Call_ (ld_blt I hg hm boot_enumerate (PyProof.Rows.callWith_type1 (thn (ha.run pos pins s σ H _ I h) fun us s1 ⟨vs, H1, I1, r1, q1⟩ => ?_) hs rfl))
  obtain ⟨k, a, xs, ex, hqx, q⟩ := q1
  subst ex
  obtain ⟨u, rfl, ru⟩ := vals1 r1
  cases ru
  obtain ⟨its, rv, p1, _⟩ := hasS_of I1 hqx
  have la := hasS_lt p1
  refine enum_begins1 (beginsS k a its.toArray) p1 fun h' he h1 hsz hk => ?_
  refine wpAny_pyIter_enum he ?_
  have I2 : Inv X pins σ H1 { s1 with heap := h' } := I1.kept (t' := s1.toks) hk
  refine ⟨_, [s1.heap.objs.size + 1, s1.heap.objs.size], _, _, H1, rfl, I2, turnE (k := k) (a := a) (e := s1.heap.objs.size + 1) (it := s1.heap.objs.size) (Nat.ne_of_lt la) (Nat.succ_ne_self _) (Nat.ne_of_gt (Nat.lt_succ_of_lt la)), ⟨⟨_, he⟩, atS_new h1⟩, fun c hc => ?_, q⟩
  have hle : s1.heap.objs.size ≤ c := by
    simp only [List.mem_cons, List.not_mem_nil, or_false] at hc
    rcases hc with z | z <;> (rw [z]; first | exact Nat.le_refl _ | exact Nat.le_add_right _ _)
  exact I1.fpOk hle (I1.hok.fresh hle)
end Dv

/-! DvE: slots set and forgotten; walks by deep values; comprehensions. -/
namespace Dv
open PySem PySem.Spec PyProof.Rows L2
section
variable {T : Tx} {B : Bs} {ρ ρ' : List Addr} {G G' H H' : Hp} {σ σ2 : L2.St} {env env2 : DEnv} {μ μ' : Mu}
/-! ### slots -/
def wipeD (env : DEnv) : List Nat → DEnv
  | [] => env
  | v :: vs => (wipeD env vs).set v .no
def noOwn (env : DEnv) (vs : List Nat) : Bool := vs.all fun i => match env[i]? with
  | some (.own _) => false
  | _ => true
theorem own_of_set {env : DEnv} {i j : Nat} {s : SV} {l : List D} (hs : ∀ l, s ≠ .own l) (h : (env.set i s)[j]? = some (.own l)) : j ≠ i ∧ env[j]? = some (.own l) := by
  by_cases e : i = j
  · subst e
    by_cases hi : i < env.length
    · rw [List.getElem?_set_self hi] at h
      exact absurd (Option.some.inj h) (hs l)
    · rw [List.getElem?_eq_none (by simpa using Nat.le_of_not_lt hi)] at h; cases h
  · rw [List.getElem?_set_ne e] at h
    exact ⟨fun q => e q.symm, h⟩
/-- a slot is stored -/
theorem RD.setG (R : RD T B ρ G H σ env μ) {i : Nat} {x : Option V} {s : SV} (hs : ∀ l, s ≠ .own l) (hx : ∀ d, s = .v d → ∃ v, x = some v ∧ Rep T ρ G v d) : RD T B ρ G H (σ.set i x) (env.set i s) μ := by
  have sne : ∀ {j : Nat}, j ≠ i → (σ.set i x)[j]? = σ[j]? := fun {j} h => List.getElem?_set_ne (Ne.symm h)
  refine ⟨R.gh, R.ext, by simp [R.len], fun j t ht => ?_, fun j k l l' p h1 h2 h3 h4 => ?_, R.st, fun q hq => ?_, R.xn⟩
  · by_cases e : i = j
    · subst e
      by_cases hi : i < env.length
      · rw [List.getElem?_set_self hi] at ht
        cases ht
        have hi2 : i < σ.length := by rw [← R.len]; exact hi
        cases s with
        | no => trivial
        | v d =>
          obtain ⟨v, e1, e2⟩ := hx d rfl
          exact ⟨v, by rw [List.getElem?_set_self hi2, e1], e2⟩
        | own l => exact absurd rfl (hs l)
      · rw [List.getElem?_eq_none (by simpa using Nat.le_of_not_lt hi)] at ht; cases ht
    · rw [List.getElem?_set_ne e] at ht
      have h := R.slot j t ht
      cases t with
      | no => trivial
      | v d => unfold SlR at h ⊢; rw [sne (fun q => e q.symm)]; exact h
      | own l => unfold SlR at h ⊢; rw [sne (fun q => e q.symm)]; exact h
  · obtain ⟨n1, o1⟩ := own_of_set hs h1
    obtain ⟨n2, o2⟩ := own_of_set hs h2
    rw [sne n1] at h3
    rw [sne n2] at h4
    exact R.own j k l l' p o1 o2 h3 h4
  · obtain ⟨e1, e2, e3, e4, e5⟩ := R.xo q hq
    refine ⟨e1, e2, e3, e4, fun j l' h1 h2 => ?_⟩
    obtain ⟨n1, o1⟩ := own_of_set hs h1
    rw [sne n1] at h2
    exact e5 j l' o1 h2
theorem RD.set (R : RD T B ρ G H σ env μ) {i : Nat} {v : V} {d : D} (r : Rep T ρ G v d) : RD T B ρ G H (σ.set i (some v)) (env.set i (.v d)) μ :=
  R.setG (fun _ => by simp) fun d' e => by cases e; exact ⟨v, rfl, r⟩
theorem RD.wipe (R : RD T B ρ G H σ env μ) : ∀ vs : List Nat, RD T B ρ G H (wipe σ vs) (wipeD env vs) μ
  | [] => R
  | i :: vs => RD.setG (RD.wipe R vs) (fun _ => by simp) fun d' e => by cases e
theorem wipeD_out {i : Nat} : ∀ {vs : List Nat}, i ∉ vs → (wipeD env vs)[i]? = env[i]?
  | [], _ => rfl
  | v :: vs, h => by
    have h1 : v ≠ i := fun e => h (by rw [e]; exact List.mem_cons_self)
    have h2 : i ∉ vs := fun m => h (List.mem_cons_of_mem _ m)
    unfold wipeD
    rw [List.getElem?_set_ne h1]
    exact wipeD_out h2
/-- back from a block -/
theorem RD.back (R : RD T B ρ G H σ env μ) (R' : RD T B ρ' G' H' σ2 env2 μ') (s : Same G G') (p : Pre ρ ρ') {vs : List Nat} (no : noOwn env vs = true) (he : ∀ i, i ∉ vs → env2[i]? = env[i]?) (hσ : ∀ i, i ∉ vs → σ2[i]? = σ[i]?) :
    RD T B ρ' G' H' σ env μ' := by
  have nv : ∀ {i : Nat} {l : List D}, env[i]? = some (.own l) → i ∉ vs := fun {i l} h m => by
    have q := List.all_eq_true.mp no i m
    rw [h] at q; cases q
  refine ⟨R'.gh, R'.ext, R.len, fun i t ht => ?_, fun i j l l' q h1 h2 h3 h4 => ?_, R'.st, fun q hq => ?_, R'.xn⟩
  · cases t with
    | no => trivial
    | v d =>
      obtain ⟨v, e1, e2⟩ := R.slot i _ ht
      exact ⟨v, e1, e2.mono s p⟩
    | own l =>
      have m := nv ht
      have h := R'.slot i (.own l) (by rw [he i m]; exact ht)
      unfold SlR at h ⊢
      rw [← hσ i m]; exact h
  · have m1 := nv h1
    have m2 := nv h2
    exact R'.own i j l l' q (by rw [he i m1]; exact h1) (by rw [he j m2]; exact h2) (by rw [hσ i m1]; exact h3) (by rw [hσ j m2]; exact h4)
  · obtain ⟨e1, e2, e3, e4, e5⟩ := R'.xo q hq
    refine ⟨e1, e2, e3, e4, fun i l' h1 h2 => ?_⟩
    have m := nv h1
    exact e5 i l' (by rw [he i m]; exact h1) (by rw [hσ i m]; exact h2)
end

/-! ### walks -/
structure WalkD (T : Tx) (J : It) (ρ : List Addr) (G : Hp) (ds : List D) : Prop where
  sz : szl ds.length
  go : ∀ (i : Nat) d, ds[i]? = some d → ∀ ρ' G' H', Same G G' → Pre ρ ρ' → Same G' H' → J.go i H' ∧ ∀ x H'', J.yld i H' x H'' →
    (H'' = H' ∧ Rep T ρ' G' x d) ∨ ∃ p vs l, H' p = none ∧ H'' = upd H' p (.tup vs) ∧ x = .ref p ∧ d = .tup l ∧ Reps T ρ' G' vs l ∧ szl l.length
  stop : ∀ ρ' G' H', Same G G' → Pre ρ ρ' → Same G' H' → J.stop ds.length H'
def rdI (T : Tx) (B : Bs) (W : WX) (m : DEnv → Mu → Res (List D)) : TI := fun σ H R => ∃ ρ G env μ, RD T B ρ G H σ env μ ∧ KE T B σ env W (fun ρ' G' H' _ ds => ∀ J, WalkD T J ρ' G' ds → R J H') ρ G (m env μ)
structure DI (X : Cx) (B : Bs) (W : WX) (tg iter : Expr) (m : DEnv → Mu → Res (List D)) : Prop where
  run : PI X tg iter (rdI (tx X) B W m)
theorem piImp {X : Cx} {tg iter : Expr} {w w' : TI} (h : PI X tg iter w) (i : ∀ σ H R, w' σ H R → w σ H R) : PI X tg iter w' := ⟨fun pins s σ H R I q => h.run pins s σ H R I (i σ H R q)⟩
theorem piOr {X : Cx} {tg iter : Expr} {w w' : TI} (h : PI X tg iter w) (h' : PI X tg iter w') : PI X tg iter (fun σ H R => w σ H R ∨ w' σ H R) := ⟨fun pins s σ H R I q => q.elim (h.run pins s σ H R I) (h'.run pins s σ H R I)⟩
section
variable {X : Cx} {B : Bs} {W : WX} {T : Tx} {ρ : List Addr} {G H : Hp}
theorem walk_list {K : PySem.W.Frag} {a : Addr} {vs : List V} {l : List D} (hg : G a = some (.lst vs)) (z : szl l.length) (r : Reps T ρ G vs l) : WalkD T (Itl K a) ρ G l where
  sz := z
  go := fun i d hd ρ' G' H' s p gh => by
    obtain ⟨v, e, q⟩ := r.get hd
    have h1 : SqL K H' a vs := .of (gh _ _ (s _ _ hg))
    exact ⟨⟨vs, v, h1, e⟩, fun x H'' ⟨e1, e2⟩ => .inl ⟨e1, by have := e2 vs h1; rw [e] at this; cases this; exact q.mono s p⟩⟩
  stop := fun ρ' G' H' s p gh => ⟨vs, .of (gh _ _ (s _ _ hg)), by rw [r.length]; exact Nat.le_refl _⟩
theorem walk_tup {a : Addr} {vs : List V} {l : List D} (hg : SqG T.K G a vs) (z : szl l.length) (r : Reps T ρ G vs l) : WalkD T (Itt T.K a) ρ G l where
  sz := z
  go := fun i d hd ρ' G' H' s p gh => by
    obtain ⟨v, e, q⟩ := r.get hd
    have h1 : SqT T.K H' a vs := (sqG_mono gh (sqG_mono s hg)).sq
    exact ⟨⟨vs, v, h1, e⟩, fun x H'' ⟨e1, e2⟩ => .inl ⟨e1, by have := e2 vs h1; rw [e] at this; cases this; exact q.mono s p⟩⟩
  stop := fun ρ' G' H' s p gh => ⟨vs, (sqG_mono gh (sqG_mono s hg)).sq, by rw [r.length]; exact Nat.le_refl _⟩
def signs (z : Str) : List D := z.cps.toList.map fun c => .str ⟨#[c]⟩
theorem walk_str {z : Str} (hz : szl z.cps.size) : WalkD T (Its z) ρ G (signs z) where
  sz := by simp [signs]; exact hz
  go := fun i d hd ρ' G' H' s p gh => by
    unfold signs at hd
    rw [List.getElem?_map] at hd
    cases e : z.cps.toList[i]? with
    | none => rw [e] at hd; cases hd
    | some c =>
      rw [e] at hd
      cases hd
      have e' : z.cps[i]? = some c := by simpa using e
      refine ⟨?_, fun x H'' ⟨e1, c', e2, e3⟩ => .inl ⟨e1, ?_⟩⟩
      · exact (Array.getElem?_eq_some_iff.mp e').1
      · rw [e'] at e2; cases e2; rw [e3]; exact rep_str
  stop := fun ρ' G' H' s p gh => by show z.cps.size ≤ _; simp [signs]
def fIter : D → Mu → Res (List D)
  | .tup l, μ => ret l μ
  | .lst l, μ => ret l μ
  | .new l, μ => ret l μ
  | .str z, μ => if szl z.cps.size then ret (signs z) μ else none
  | _, _ => none
def dIter (m : DEx) : DEnv → Mu → Res (List D) := fun env μ => bindR (m env μ) fIter
theorem di_seq {tg e : Expr} {m : DEx} (h : DE X B W e m) : DI X B W tg e (dIter m) := by
  refine ⟨piImp (piOr (pi_list h.run) (piOr (pi_tup h.run) (pi_str h.run))) fun σ H R ⟨ρ, G, env, μ, R0, k⟩ => ?_⟩
  cases hm : m env μ with
  | none => unfold dIter at k; rw [hm] at k; exact k.elim
  | some q =>
    obtain ⟨o, μ1⟩ := q
    cases o with
    | exc x =>
      refine .inl ⟨ρ, G, env, μ, R0, ?_⟩
      unfold dIter at k
      rw [hm] at k ⊢
      exact k
    | val d =>
      have k : KE (tx X) B σ env W (fun ρ' G' H' _ ds => ∀ J, WalkD (tx X) J ρ' G' ds → R J H') ρ G (bindR (m env μ) fIter) := k
      rw [hm] at k
      cases d with
      | tup l =>
        refine .inr (.inl ⟨ρ, G, env, μ, R0, ?_⟩)
        rw [hm]
        intro ρ' G' H' s p R1 v hv
        obtain ⟨a, vs, rfl, q, z, r⟩ := tup_inv (σ := σ) (env := env) hv
        exact ⟨a, rfl, ⟨vs, (sqG_mono R1.gh q).sq⟩, k ρ' G' H' s p R1 _ (walk_tup q z r)⟩
      | lst l =>
        refine .inl ⟨ρ, G, env, μ, R0, ?_⟩
        rw [hm]
        intro ρ' G' H' s p R1 v hv
        obtain ⟨a, vs, rfl, q, z, r⟩ := lst_inv (σ := σ) (env := env) hv
        exact ⟨a, rfl, ⟨vs, .of (R1.gh _ _ q)⟩, k ρ' G' H' s p R1 _ (walk_list q z r)⟩
      | new l =>
        refine .inl ⟨ρ, G, env, μ, R0, ?_⟩
        rw [hm]
        intro ρ' G' H' s p R1 v hv
        obtain ⟨G2, s2, R2, h2⟩ := hv.hold R1
        obtain ⟨a, vs, rfl, q, z, r⟩ := lst_inv h2
        exact ⟨a, rfl, ⟨vs, .of (R2.gh _ _ q)⟩, k ρ' G2 H' (s.trans s2) p R2 _ (walk_list q z r)⟩
      | str z =>
        refine .inr (.inr ⟨ρ, G, env, μ, R0, ?_⟩)
        rw [hm]
        intro ρ' G' H' s p R1 v hv
        have e := str_inv (T := tx X) (ρ := ρ') (G := G') (σ := σ) (env := env) hv
        unfold bindR fIter at k
        simp only at k
        split at k
        · rename_i hz
          exact ⟨z, e, k ρ' G' H' s p R1 _ (walk_str hz)⟩
        · exact k.elim
      | _ => exact k.elim
/-! ### range -/
/-- (by natAbs: a kernel that tries an addition of a written number to an unknown one counts it down) -/
def small62 (i : Int) : Bool := decide (i.natAbs < 4611686018427387904)
def rangeD (lo hi : Int) : List D := (List.range (hi - lo).toNat).map fun (i : Nat) => .int (lo + i)
def fRange1 : List D → Mu → Res (List D)
  | [.int j], μ => if small62 j = true ∧ szl (j - 0).toNat then ret (rangeD 0 j) μ else none
  | _, _ => none
def fRange2 : List D → Mu → Res (List D)
  | [.int i, .int j], μ => if small62 i = true ∧ small62 j = true ∧ szl (j - i).toNat then ret (rangeD i j) μ else none
  | _, _ => none
theorem rangeD_len (lo hi : Int) : (rangeD lo hi).length = (hi - lo).toNat := by simp [rangeD]
theorem walk_range {lo hi : Int} (z : szl (hi - lo).toNat) : WalkD T (Itr lo (hi - lo).toNat) ρ G (rangeD lo hi) where
  sz := by rw [rangeD_len]; exact z
  go := fun i d hd ρ' G' H' s p gh => by
    unfold rangeD at hd
    rw [List.getElem?_map] at hd
    by_cases hi' : i < (hi - lo).toNat
    · rw [List.getElem?_range hi'] at hd
      cases hd
      exact ⟨hi', fun x H'' ⟨e1, e2⟩ => .inl ⟨e1, by rw [e2]; exact rep_int⟩⟩
    · rw [List.getElem?_eq_none (by simpa using hi')] at hd; cases hd
  stop := fun ρ' G' H' s p gh => by show (hi - lo).toNat ≤ _; rw [rangeD_len]; exact Nat.le_refl _
theorem hreps1 {T : Tx} {ρ : List Addr} {G : Hp} {σ : L2.St} {env : DEnv} {vs : List V} {d : D} (h : HReps T ρ G σ env vs [d]) : ∃ v, vs = [v] ∧ HeldR T ρ G σ env v d := by
  cases h with
  | cons a b => cases b; exact ⟨_, rfl, a⟩
theorem hreps2 {T : Tx} {ρ : List Addr} {G : Hp} {σ : L2.St} {env : DEnv} {vs : List V} {d e : D} (h : HReps T ρ G σ env vs [d, e]) : ∃ v u, vs = [v, u] ∧ HeldR T ρ G σ env v d ∧ HeldR T ρ G σ env u e := by
  cases h with
  | cons a b =>
    obtain ⟨u, rfl, q⟩ := hreps1 b
    exact ⟨_, _, rfl, a, q⟩
theorem small62_ok {i : Int} (h : small62 i = true) : -(2 ^ 62) ≤ i ∧ i < 2 ^ 62 := by
  unfold small62 at h
  simp only [decide_eq_true_eq] at h
  omega
def dArg (f : List D → Mu → Res (List D)) (n : DEnv → Mu → Res (List D)) : DEnv → Mu → Res (List D) := fun env μ => bindR (n env μ) f
theorem di_range1 {tg a : Expr} {p pos : Pos} {n : DEnv → Mu → Res (List D)} (hg : Gl X "range") (hm : X.mg "range" = none) (ha : DA X B W [a] n) (hs : starEach [a] X.env = [(false, eval a X.env)] := by rfl) : DI X B W tg (.Call (.Name "range" p) [a] [] pos) (dArg fRange1 n) := by
  refine ⟨piImp (pi_range1 hg hm ha.run hs) fun σ H R ⟨ρ, G, env, μ, R0, k⟩ => ⟨ρ, G, env, μ, R0, (KE.bind (f := fRange1) k).imp fun ρ1 G1 H1 μ1 ds s p R1 k1 vs hvs => ?_⟩⟩
  unfold fRange1 at k1
  split at k1
  · split at k1
    · rename_i j hz
      obtain ⟨v, rfl, hv⟩ := hreps1 hvs
      have b := small62_ok hz.1
      refine ⟨j, by rw [int_inv hv], b.1, b.2, ?_⟩
      have e : j.toNat = (j - 0).toNat := by omega
      rw [e]
      exact k1 ρ1 G1 H1 (fun _ _ h => h) (.refl _) R1 _ (walk_range hz.2)
    · exact k1.elim
  · exact k1.elim
theorem di_range2 {tg a b : Expr} {p pos : Pos} {n : DEnv → Mu → Res (List D)} (hg : Gl X "range") (hm : X.mg "range" = none) (ha : DA X B W [a, b] n) (hs : starEach [a, b] X.env = [(false, eval a X.env), (false, eval b X.env)] := by rfl) (hs2 : starEach [b] X.env = [(false, eval b X.env)] := by rfl) :
    DI X B W tg (.Call (.Name "range" p) [a, b] [] pos) (dArg fRange2 n) := by
  refine ⟨piImp (pi_range2 hg hm ha.run hs hs2) fun σ H R ⟨ρ, G, env, μ, R0, k⟩ => ⟨ρ, G, env, μ, R0, (KE.bind (f := fRange2) k).imp fun ρ1 G1 H1 μ1 ds s p R1 k1 vs hvs => ?_⟩⟩
  unfold fRange2 at k1
  split at k1
  · split at k1
    · rename_i i j hz
      obtain ⟨v, u, rfl, hv, hu⟩ := hreps2 hvs
      have b1 := small62_ok hz.1
      have b2 := small62_ok hz.2.1
      refine ⟨i, j, by rw [int_inv hv, int_inv hu], ⟨b1.1, b1.2, b2.1, b2.2⟩, ?_⟩
      exact k1 ρ1 G1 H1 (fun _ _ h => h) (.refl _) R1 _ (walk_range hz.2.2)
    · exact k1.elim
  · exact k1.elim
/-! ### zip, enumerate -/
/-- the items of a list or a tuple that stands -/
def seqD : D → Option (List D)
  | .tup l => some l
  | .lst l => some l
  | _ => none
theorem seqD_inv {T : Tx} {B : Bs} {ρ : List Addr} {G H : Hp} {σ : L2.St} {env : DEnv} {μ : Mu} {x : V} {d : D} {l : List D} (R : RD T B ρ G H σ env μ) (h : HeldR T ρ G σ env x d) (e : seqD d = some l) :
    ∃ k a vs, x = .ref a ∧ (∀ G' H', Same G G' → Same G' H' → SqS T.K H' k a vs) ∧ szl l.length ∧ Reps T ρ G vs l := by
  cases d with
  | tup l' =>
    cases e
    obtain ⟨a, vs, q, g, z, r⟩ := tup_inv h
    exact ⟨false, a, vs, q, fun G' H' s gh => (sqG_mono gh (sqG_mono s g)).sq, z, r⟩
  | lst l' =>
    cases e
    obtain ⟨a, vs, q, g, z, r⟩ := lst_inv h
    exact ⟨true, a, vs, q, fun G' H' s gh => .of (gh _ _ (s _ _ g)), z, r⟩
  | _ => cases e
def pairD (a b : D) : D := .tup [a, b]
def fZip : List D → Mu → Res (List D)
  | [a, b], μ => match seqD a, seqD b with
    | some l, some m => ret (List.zipWith pairD l m) μ
    | _, _ => none
  | _, _ => none
def enumD : Nat → List D → List D
  | _, [] => []
  | i, d :: ds => pairD (.int i) d :: enumD (i + 1) ds
def fEnum : List D → Mu → Res (List D)
  | [a], μ => match seqD a with
    | some l => ret (enumD 0 l) μ
    | none => none
  | _, _ => none
theorem reps2 {T : Tx} {ρ : List Addr} {G : Hp} {x y : V} {a b : D} (h : Rep T ρ G x a) (g : Rep T ρ G y b) : Reps T ρ G [x, y] [a, b] := .cons h (.cons g .nil)
theorem walk_zip {K : PySem.W.Frag} {k1 k2 : Bool} {a b : Addr} {us vs : List V} {l m : List D} (h1 : ∀ G' H', Same G G' → Same G' H' → SqS K H' k1 a us) (h2 : ∀ G' H', Same G G' → Same G' H' → SqS K H' k2 b vs) (z : szl l.length) (r1 : Reps T ρ G us l) (r2 : Reps T ρ G vs m) :
    WalkD T (ItZ K k1 k2 a b) ρ G (List.zipWith pairD l m) where
  sz := by rw [List.length_zipWith]; exact Nat.le_trans (Nat.min_le_left _ _) z
  go := fun i d hd ρ' G' H' s p gh => by
    rw [List.getElem?_zipWith] at hd
    cases e1 : l[i]? with
    | none => rw [e1] at hd; cases hd
    | some d1 =>
      cases e2 : m[i]? with
      | none => rw [e1, e2] at hd; cases hd
      | some d2 =>
        rw [e1, e2] at hd
        cases hd
        obtain ⟨v1, q1, t1⟩ := r1.get e1
        obtain ⟨v2, q2, t2⟩ := r2.get e2
        refine ⟨⟨us, vs, v1, v2, h1 G' H' s gh, h2 G' H' s gh, q1, q2⟩, fun x H'' ⟨T', x', y', ex, hn, eH, f1, f2⟩ => .inr ⟨T', [x', y'], [d1, d2], hn, eH, ex, rfl, ?_, by show 2 ≤ 16777216; decide⟩⟩
        have g1 := f1 us (h1 G' H' s gh)
        have g2 := f2 vs (h2 G' H' s gh)
        rw [q1] at g1; cases g1
        rw [q2] at g2; cases g2
        exact reps2 (t1.mono s p) (t2.mono s p)
  stop := fun ρ' G' H' s p gh => ⟨us, vs, h1 G' H' s gh, h2 G' H' s gh, by rw [List.length_zipWith, r1.length, r2.length]⟩
theorem enumD_len : ∀ (l : List D) (i : Nat), (enumD i l).length = l.length
  | [], _ => rfl
  | d :: ds, i => by unfold enumD; simp [enumD_len ds]
theorem enumD_get : ∀ {l : List D} {i j : Nat} {d : D}, (enumD j l)[i]? = some d → ∃ d', l[i]? = some d' ∧ d = pairD (.int ((j + i : Nat) : Int)) d'
  | [], i, j, d, h => by simp [enumD] at h
  | x :: ds, 0, j, d, h => by
    unfold enumD at h
    simp at h
    exact ⟨x, rfl, by rw [← h]; simp⟩
  | x :: ds, i + 1, j, d, h => by
    unfold enumD at h
    obtain ⟨d', e1, e2⟩ := enumD_get (l := ds) (i := i) (j := j + 1) (by simpa using h)
    exact ⟨d', by simpa using e1, by rw [e2, show j + 1 + i = j + (i + 1) by omega]⟩
theorem walk_enum {K : PySem.W.Frag} {k1 : Bool} {a : Addr} {us : List V} {l : List D} (h1 : ∀ G' H', Same G G' → Same G' H' → SqS K H' k1 a us) (z : szl l.length) (r1 : Reps T ρ G us l) : WalkD T (ItE K k1 a) ρ G (enumD 0 l) where
  sz := by rw [enumD_len]; exact z
  go := fun i d hd ρ' G' H' s p gh => by
    obtain ⟨d', e1, rfl⟩ := enumD_get hd
    obtain ⟨v1, q1, t1⟩ := r1.get e1
    refine ⟨⟨us, v1, h1 G' H' s gh, q1⟩, fun x H'' ⟨T', x', ex, hn, eH, f1⟩ => .inr ⟨T', [.int (i : Nat), x'], [.int ((0 + i : Nat) : Int), d'], hn, eH, ex, rfl, ?_, by show 2 ≤ 16777216; decide⟩⟩
    have g1 := f1 us (h1 G' H' s gh)
    rw [q1] at g1; cases g1
    exact reps2 (by rw [Nat.zero_add]; exact rep_int) (t1.mono s p)
  stop := fun ρ' G' H' s p gh => ⟨us, h1 G' H' s gh, by rw [enumD_len, r1.length]⟩
theorem di_zip {elts : List Expr} {kk : Nat} {tpos : Pos} {a b : Expr} {p pos : Pos} {n : DEnv → Mu → Res (List D)} (hg : Gl X "zip") (hm : X.mg "zip" = none) (ha : DA X B W [a, b] n)
    (hs : starEach [a, b] X.env = (false, eval a X.env) :: starEach [b] X.env := by rfl) (hpl : (backTo pos (starEach [b] X.env)).any (·.1) = false := by rfl) : DI X B W (.Tuple elts kk tpos) (.Call (.Name "zip" p) [a, b] [] pos) (dArg fZip n) := by
  refine ⟨piImp (pi_zipS hg hm ha.run hs hpl) fun σ H R ⟨ρ, G, env, μ, R0, k⟩ => ⟨ρ, G, env, μ, R0, (KE.bind (f := fZip) k).imp fun ρ1 G1 H1 μ1 ds s p R1 k1 vs hvs => ?_⟩⟩
  unfold fZip at k1
  split at k1
  · rename_i d e
    split at k1
    · rename_i l m e1 e2
      obtain ⟨v, u, rfl, hv, hu⟩ := hreps2 hvs
      obtain ⟨k, a, xs, rfl, q1, z1, r1⟩ := seqD_inv R1 hv e1
      obtain ⟨k', b, ys, rfl, q2, z2, r2⟩ := seqD_inv R1 hu e2
      exact ⟨k, k', a, b, xs, ys, rfl, q1 _ _ (fun _ _ h => h) R1.gh, q2 _ _ (fun _ _ h => h) R1.gh, k1 ρ1 G1 H1 (fun _ _ h => h) (.refl _) R1 _ (walk_zip q1 q2 z1 r1 r2)⟩
    · exact k1.elim
  · exact k1.elim
theorem di_enum {elts : List Expr} {kk : Nat} {tpos : Pos} {a : Expr} {p pos : Pos} {n : DEnv → Mu → Res (List D)} (hg : Gl X "enumerate") (hm : X.mg "enumerate" = none) (ha : DA X B W [a] n)
    (hs : starEach [a] X.env = [(false, eval a X.env)] := by rfl) : DI X B W (.Tuple elts kk tpos) (.Call (.Name "enumerate" p) [a] [] pos) (dArg fEnum n) := by
  refine ⟨piImp (pi_enumS hg hm ha.run hs) fun σ H R ⟨ρ, G, env, μ, R0, k⟩ => ⟨ρ, G, env, μ, R0, (KE.bind (f := fEnum) k).imp fun ρ1 G1 H1 μ1 ds s p R1 k1 vs hvs => ?_⟩⟩
  unfold fEnum at k1
  split at k1
  · rename_i d
    split at k1
    · rename_i l e1
      obtain ⟨v, rfl, hv⟩ := hreps1 hvs
      obtain ⟨k, a, xs, rfl, q1, z1, r1⟩ := seqD_inv R1 hv e1
      exact ⟨k, a, xs, rfl, q1 _ _ (fun _ _ h => h) R1.gh, k1 ρ1 G1 H1 (fun _ _ h => h) (.refl _) R1 _ (walk_enum q1 z1 r1)⟩
    · exact k1.elim
  · exact k1.elim
end
end Dv

/-! DvF: targets, comprehensions, calls of built-ins, subscripts. -/
namespace Dv
open PySem PySem.Spec PyProof.Rows L2
/-! ### targets -/
abbrev DTg := DEnv → D → Option DEnv
/-- a target by deep values: it stores the slots is -/
structure GD (K : PySem.W.Frag) (mg : Str → Option Value) (g : TG) (t : DTg) (is : List Nat) : Prop where
  ok : ∀ (B : Bs) (ρ : List Addr) (G H : Hp) (σ : L2.St) (env : DEnv) (μ : Mu) (x : V) (d : D) (env' : DEnv) (Q : L2.St → Hp → Prop), RD ⟨K, mg⟩ B ρ G H σ env μ → Rep ⟨K, mg⟩ ρ G x d → t env d = some env' →
    (∀ σ', RD ⟨K, mg⟩ B ρ G H σ' env' μ → (∀ vs : List Nat, (∀ i ∈ is, i ∈ vs) → wipe σ' vs = wipe σ vs) → (∀ i, i ∉ is → σ'[i]? = σ[i]?) → Q σ' H) → g x σ H Q
  out : ∀ env d env', t env d = some env' → ∀ i, i ∉ is → env'[i]? = env[i]?
structure GsD (K : PySem.W.Frag) (mg : Str → Option Value) (g : TGs) (t : DEnv → List D → Option DEnv) (is : List Nat) : Prop where
  ok : ∀ (B : Bs) (ρ : List Addr) (G H : Hp) (σ : L2.St) (env : DEnv) (μ : Mu) (xs : List V) (ds : List D) (env' : DEnv) (Q : L2.St → Hp → Prop), RD ⟨K, mg⟩ B ρ G H σ env μ → Reps ⟨K, mg⟩ ρ G xs ds → t env ds = some env' →
    (∀ σ', RD ⟨K, mg⟩ B ρ G H σ' env' μ → (∀ vs : List Nat, (∀ i ∈ is, i ∈ vs) → wipe σ' vs = wipe σ vs) → (∀ i, i ∉ is → σ'[i]? = σ[i]?) → Q σ' H) → g xs σ H Q
  out : ∀ env ds env', t env ds = some env' → ∀ i, i ∉ is → env'[i]? = env[i]?
def tName (i : Nat) : DTg := fun env d => some (env.set i (.v d))
def tsNil : DEnv → List D → Option DEnv
  | env, [] => some env
  | _, _ => none
def tsCons (t : DTg) (u : DEnv → List D → Option DEnv) : DEnv → List D → Option DEnv
  | env, d :: ds => (match t env d with
    | some env' => u env' ds
    | none => none)
  | _, [] => none
def tTup (n : Nat) (u : DEnv → List D → Option DEnv) : DTg := fun env d => match d with
  | .tup l => if l.length = n then u env l else none
  | _ => none
section
variable {K : PySem.W.Frag} {mg : Str → Option Value}
theorem wipe_set {σ : L2.St} {i : Nat} {v : Option V} : ∀ {vs : List Nat}, i ∈ vs → wipe (σ.set i v) vs = wipe σ vs := by
  intro vs h
  apply List.ext_getElem?
  intro j
  have len : (wipe (σ.set i v) vs).length = (wipe σ vs).length := by rw [wipe_length, wipe_length, List.length_set]
  by_cases hj : j ∈ vs
  · have w : ∀ (τ : L2.St), (wipe τ vs)[j]? = if j < τ.length then some none else none := by
      intro τ
      induction vs with
      | nil => cases hj
      | cons u us ih =>
        unfold wipe
        by_cases e : u = j
        · subst e
          by_cases hl : u < τ.length
          · rw [List.getElem?_set_self (by rw [wipe_length]; exact hl), if_pos hl]
          · rw [List.getElem?_eq_none (by rw [List.length_set, wipe_length]; omega), if_neg hl]
        · rw [List.getElem?_set_ne e]
          have hj' : j ∈ us := by
            rcases List.mem_cons.mp hj with q | q
            · exact absurd q.symm e
            · exact q
          clear ih
          revert hj'
          intro hj'
          have : ∀ (ws : List Nat), j ∈ ws → (wipe τ ws)[j]? = if j < τ.length then some none else none := by
            intro ws
            induction ws with
            | nil => intro z; cases z
            | cons y ys ih2 =>
              intro z
              unfold wipe
              by_cases e2 : y = j
              · subst e2
                by_cases hl : y < τ.length
                · rw [List.getElem?_set_self (by rw [wipe_length]; exact hl), if_pos hl]
                · rw [List.getElem?_eq_none (by rw [List.length_set, wipe_length]; omega), if_neg hl]
              · rw [List.getElem?_set_ne e2]
                rcases List.mem_cons.mp z with q | q
                · exact absurd q.symm e2
                · exact ih2 q
          exact this us hj'
    rw [w, w, List.length_set]
  · rw [wipe_out hj, wipe_out hj, List.getElem?_set_ne (fun e => hj (by rw [← e]; exact h))]
theorem gd_name {i : Nat} : GD K mg (gName i) (tName i) [i] where
  ok := fun B ρ G H σ env μ x d env' Q R r e k => by
    unfold tName at e
    cases e
    refine k (σ.set i (some x)) (R.set r) (fun vs h => wipe_set (h i (by simp))) fun j hj => ?_
    exact List.getElem?_set_ne (fun q => hj (by simp [q]))
  out := fun env d env' e j hj => by
    unfold tName at e
    cases e
    exact List.getElem?_set_ne (fun q => hj (by simp [q]))
theorem gsd_nil : GsD K mg gNil tsNil [] where
  ok := fun B ρ G H σ env μ xs ds env' Q R r e k => by
    cases ds with
    | nil =>
      unfold tsNil at e
      cases e
      exact ⟨r.inv0, k σ R (fun _ _ => rfl) fun _ _ => rfl⟩
    | cons d ds => unfold tsNil at e; cases e
  out := fun env ds env' e j hj => by
    cases ds with
    | nil => unfold tsNil at e; cases e; rfl
    | cons d ds => unfold tsNil at e; cases e
theorem gsd_cons {g : TG} {t : DTg} {is js : List Nat} {gs : TGs} {u : DEnv → List D → Option DEnv} (h : GD K mg g t is) (h' : GsD K mg gs u js) : GsD K mg (gCons g gs) (tsCons t u) (is ++ js) where
  ok := fun B ρ G H σ env μ xs ds env' Q R r e k => by
    cases ds with
    | nil => unfold tsCons at e; cases e
    | cons d ds =>
      unfold tsCons at e
      simp only at e
      split at e
      · rename_i env1 e1
        obtain ⟨v, rr, rfl, r1, r2⟩ := r.inv
        refine ⟨v, rr, rfl, h.ok B ρ G H σ env μ v d env1 _ R r1 e1 fun σ1 R1 w1 o1 => h'.ok B ρ G H σ1 env1 μ rr ds env' _ R1 r2 e fun σ2 R2 w2 o2 => k σ2 R2 (fun vs hv => ?_) fun i hi => ?_⟩
        · rw [w2 vs fun i hi => hv i (List.mem_append_right _ hi), w1 vs fun i hi => hv i (List.mem_append_left _ hi)]
        · rw [o2 i fun m => hi (List.mem_append_right _ m), o1 i fun m => hi (List.mem_append_left _ m)]
      · cases e
  out := fun env ds env' e i hi => by
    cases ds with
    | nil => unfold tsCons at e; cases e
    | cons d ds =>
      unfold tsCons at e
      simp only at e
      split at e
      · rename_i env1 e1
        rw [h'.out _ _ _ e i fun m => hi (List.mem_append_right _ m), h.out _ _ _ e1 i fun m => hi (List.mem_append_left _ m)]
      · cases e
theorem gd_tup {n : Nat} {gs : TGs} {u : DEnv → List D → Option DEnv} {is : List Nat} (h : GsD K mg gs u is) : GD K mg (gTup K n gs) (tTup n u) is where
  ok := fun B ρ G H σ env μ x d env' Q R r e k => by
    unfold tTup at e
    split at e
    · rename_i l
      split at e
      · rename_i hn
        obtain ⟨a, vs, rfl, q, z, rs⟩ := tup_inv (σ := σ) (env := env) (.of r)
        exact ⟨a, vs, rfl, (sqG_mono R.gh q).sq, by rw [rs.length, hn], h.ok B ρ G H σ env μ vs l env' Q R rs e k⟩
      · cases e
    · cases e
  out := fun env d env' e i hi => by
    unfold tTup at e
    split at e
    · split at e
      · exact h.out _ _ _ e i hi
      · cases e
    · cases e
end
/-! ### a list of the block's own -/
def Bs.add (B : Bs) (a : Addr) (vs : List V) : Bs := { B with xo := (a, vs) :: B.xo }
section
variable {T : Tx} {B : Bs} {ρ : List Addr} {G H : Hp} {σ : L2.St} {env : DEnv} {μ : Mu} {a : Addr} {vs us : List V}
theorem RD.addX (R : RD T B ρ G H σ env μ) (h1 : H a = some (.lst vs)) (h2 : G a = none) (h3 : a ∉ ρ) (h4 : B.H0 a = none) (h5 : ∀ (i : Nat) (l' : List D), env[i]? = some (.own l') → σ[i]? ≠ some (some (.ref a))) (h6 : ∀ q ∈ B.xo, q.1 ≠ a) :
    RD T (B.add a vs) ρ G H σ env μ :=
  ⟨R.gh, R.ext, R.len, R.slot, R.own, R.st, fun q hq => (List.mem_cons.mp hq).elim (fun e => by subst e; exact ⟨h1, h2, h3, h4, h5⟩) (R.xo q), List.nodup_cons.mpr ⟨fun m => by
    obtain ⟨q, hq, e⟩ := List.mem_map.mp m
    exact h6 q hq e, R.xn⟩⟩
theorem RD.delX (R : RD T (B.add a vs) ρ G H σ env μ) : RD T B ρ G H σ env μ ∧ H a = some (.lst vs) ∧ G a = none ∧ a ∉ ρ ∧ B.H0 a = none ∧ (∀ (i : Nat) (l' : List D), env[i]? = some (.own l') → σ[i]? ≠ some (some (.ref a))) ∧ ∀ q ∈ B.xo, q.1 ≠ a := by
  have h := R.xo (a, vs) List.mem_cons_self
  have n := List.nodup_cons.mp (show ((a :: B.xo.map (·.1)) : List Addr).Nodup from R.xn)
  exact ⟨⟨R.gh, R.ext, R.len, R.slot, R.own, R.st, fun q hq => R.xo q (List.mem_cons_of_mem _ hq), n.2⟩, h.1, h.2.1, h.2.2.1, h.2.2.2.1, h.2.2.2.2, fun q hq e => n.1 (List.mem_map.mpr ⟨q, hq, e⟩)⟩
/-- nobody's list is changed -/
theorem RD.writeN (R : RD T B ρ G H σ env μ) {o : HO} (h1 : ∃ o', H a = some o') (h2 : G a = none) (h3 : a ∉ ρ) (h4 : B.H0 a = none) (h5 : ∀ (i : Nat) (l' : List D), env[i]? = some (.own l') → σ[i]? ≠ some (some (.ref a))) (h6 : ∀ q ∈ B.xo, q.1 ≠ a) :
    RD T B ρ G (upd H a o) σ env μ := by
  refine ⟨fun b u e => ?_, ⟨R.ext.gg, R.ext.pre, fun b u e => ?_, R.ext.fg, R.ext.fr⟩, R.len, fun i s hs => ?_, R.own, ⟨R.st.len, R.st.nd, R.st.off, fun k m hm => ?_⟩, fun q hq => ?_, R.xn⟩
  · rw [upd_ne (fun q => by rw [q, h2] at e; cases e)]; exact R.gh b u e
  · obtain ⟨o', e1, k⟩ := R.ext.keep b u e
    exact ⟨o', by rw [upd_ne (fun q => by rw [q, h4] at e; cases e)]; exact e1, k⟩
  · have h := R.slot i s hs
    cases s with
    | no => trivial
    | v d => exact h
    | own l =>
      obtain ⟨q, ws, e1, e2, r⟩ := h
      exact ⟨q, ws, e1, by rw [upd_ne (fun z => h5 i l hs (by rw [e1, z]))]; exact e2, r⟩
  · obtain ⟨b, eb, r⟩ := R.st.at_ k m hm
    refine ⟨b, eb, ?_⟩
    have nb : b ≠ a := fun z => h3 (z ▸ List.mem_of_getElem? eb)
    exact r.to (fun _ _ e => e) fun o e1 => by rw [upd_ne nb]; exact e1
  · obtain ⟨e1, e2⟩ := R.xo q hq
    exact ⟨by rw [upd_ne (h6 q hq)]; exact e1, e2⟩
theorem RD.updX (R : RD T (B.add a vs) ρ G H σ env μ) : RD T (B.add a us) ρ G (upd H a (.lst us)) σ env μ := by
  obtain ⟨R0, h1, h2, h3, h4, h5, h6⟩ := R.delX
  exact (R0.writeN ⟨_, h1⟩ h2 h3 h4 h5 h6).addX upd_same h2 h3 h4 h5 h6
end
/-! ### comprehensions -/
def W0 : WX := fun _ _ _ _ => False
def lcRun (tg : DTg) (tt : DEnv → Mu → Res Bool) (el : DEx) (env : DEnv) : List D → Mu → Option (List D × Mu)
  | [], μ => some ([], μ)
  | d :: ds, μ => match tg env d with
    | none => none
    | some env1 => match tt env1 μ with
      | some (.val true, μ1) => (match el env1 μ1 with
        | some (.val d', μ2) => if nobor d' then (match lcRun tg tt el env ds μ2 with
          | some (l, μ3) => some (hold d' :: l, μ3)
          | none => none) else none
        | _ => none)
      | some (.val false, μ1) => lcRun tg tt el env ds μ1
      | _ => none
def lcFin (tg : DTg) (tt : DEnv → Mu → Res Bool) (el : DEx) (env : DEnv) (ds : List D) (μ : Mu) : Res D := match lcRun tg tt el env ds μ with
  | some (l, μ1) => ret (.new l) μ1
  | none => none
def dLc (it : DEnv → Mu → Res (List D)) (own : List Nat) (tg : DTg) (tt : DEnv → Mu → Res Bool) (el : DEx) : DEx := fun env μ => if noOwn env own then bindR (it env μ) (lcFin tg tt el (wipeD env own)) else none
structure DTs (X : Cx) (B : Bs) (W : WX) (ifs : List Expr) (m : DEnv → Mu → Res Bool) : Prop where
  run : PTs X ifs (rdT (tx X) B W m)
def dYes : DEnv → Mu → Res Bool := fun _ μ => ret true μ
theorem dts_nil {X : Cx} {B : Bs} {W : WX} : DTs X B W [] dYes := ⟨⟨fun pins s σ H Q I ⟨ρ, G, env, μ, R, k⟩ => pts_nil.run pins s σ H Q I (k ρ G H (fun _ _ h => h) (.refl _) R)⟩⟩
theorem dts_one {X : Cx} {B : Bs} {W : WX} {c : Expr} {m : DEnv → Mu → Res Bool} (h : DT X B W c m) : DTs X B W [c] m := ⟨pts_one h.run⟩
theorem wipe_wipe {σ : L2.St} {vs : List Nat} : wipe (wipe σ vs) vs = wipe σ vs := by
  have key : ∀ (ws : List Nat), (∀ i ∈ ws, i ∈ vs) → wipe (wipe σ ws) vs = wipe σ vs := by
    intro ws
    induction ws with
    | nil => intro _; rfl
    | cons w ws ih =>
      intro h
      show wipe ((wipe σ ws).set w none) vs = _
      rw [wipe_set (h w List.mem_cons_self)]
      exact ih fun i hi => h i (List.mem_cons_of_mem _ hi)
  exact key vs fun _ h => h
theorem hold_nobor {d : D} (h : nobor d = true) : nobor (hold d) = true := by cases d <;> first | rfl | exact h
section
variable {X : Cx} {B : Bs} {W : WX}
theorem szl_line' {n m : Nat} (h : n < m) (z : szl m) : n < sizeLine := by rw [sizeLine_eq]; exact Nat.lt_of_lt_of_le h z
theorem rd_lc {J : It} {g : TG} {tg : DTg} {is : List Nat} {tt : DEnv → Mu → Res Bool} {el : DEx} {vs : List Nat} {ρ1 : List Addr} {G1 H1 : Hp} {σ : L2.St} {env : DEnv} {μ1 μf : Mu} {ds l : List D} {Q : VK} {T : Tx}
    (gd : GD T.K T.mg g tg is) (his : ∀ i ∈ is, i ∈ vs) (no : noOwn env vs = true) (R1 : RD T B ρ1 G1 H1 σ env μ1) (wk : WalkD T J ρ1 G1 ds) (hr : lcRun tg tt el (wipeD env vs) ds μ1 = some (l, μf))
    (fin : ∀ ρ' G' H' v, Same G1 G' → Pre ρ1 ρ' → RD T B ρ' G' H' σ env μf → RepX T B ρ' G' H' σ env v (.new l) → Q v H') (D : Addr) (hD : H1 D = none) :
    ∃ W : Nat → Nat → Hp → Prop, (∃ m, W 0 m (upd H1 D (.lst []))) ∧ ∀ i m H, W i m H →
      (J.stop i H ∧ Q (.ref D) H) ∨ (J.go i H ∧ ∃ Nx : Hp → Prop, (∀ H', Nx H' → ∃ m', m' < m ∧ W (i + 1) m' H') ∧ ∀ x H', J.yld i H x H' → g x (wipe σ vs) H' fun σ2 H2 => wipe σ2 vs = wipe σ vs ∧ (fun σ H Q => ∃ B', rdT T B' W0 tt σ H Q) σ2 H2 fun b H3 =>
        if b = true then (fun σ H Q => ∃ B', rdE T B' W0 el σ H Q) σ2 H3 fun y H4 => ∃ acc, H4 D = some (.lst acc) ∧ acc.length < sizeLine ∧ Nx (upd H4 D (.lst (acc ++ [y]))) else Nx H3) := by
  obtain ⟨gD, pD, bD⟩ := R1.fresh_ hD
  refine ⟨fun i m H' => ∃ ρ' G' μ' us acc rest, m = ds.length - i ∧ i ≤ ds.length ∧ Same G1 G' ∧ Pre ρ1 ρ' ∧ RD T (B.add D us) ρ' G' H' σ env μ' ∧ Reps T ρ' G' us acc ∧ acc.length ≤ i ∧ lcRun tg tt el (wipeD env vs) (ds.drop i) μ' = some (rest, μf) ∧ acc ++ rest = l, ⟨ds.length, ρ1, G1, μ1, [], [], l, by omega, Nat.zero_le _, fun _ _ h => h, .refl _, ?_, .nil, Nat.le_refl _, hr, rfl⟩, ?_⟩
  · refine (R1.allocN hD).addX upd_same gD pD bD (fun i l' e1 e2 => ?_) fun q hq e => ?_
    · obtain ⟨q, us, e3, e4, _⟩ := R1.slot i _ e1
      rw [e2] at e3; cases e3
      rw [hD] at e4; cases e4
    · have e1 := (R1.xo q hq).1
      rw [e, hD] at e1; cases e1
  · rintro i m H' ⟨ρ', G', μ', us, acc, rest, rfl, hi, s, p, R, ra, la, hrun, hl⟩
    by_cases hlt : i < ds.length
    · have hd : ds[i]? = some ds[i] := by simp [hlt]
      obtain ⟨jg, jy⟩ := wk.go i _ hd ρ' G' H' s p R.gh
      refine .inr ⟨jg, fun H'' => ∃ ρ2 G2 μ2 us2 acc2 rest2, Same G1 G2 ∧ Pre ρ1 ρ2 ∧ RD T (B.add D us2) ρ2 G2 H'' σ env μ2 ∧ Reps T ρ2 G2 us2 acc2 ∧ acc2.length ≤ i + 1 ∧ lcRun tg tt el (wipeD env vs) (ds.drop (i + 1)) μ2 = some (rest2, μf) ∧ acc2 ++ rest2 = l,
        fun H'' ⟨ρ2, G2, μ2, us2, acc2, rest2, h1, h2, h3, h4, h5, h6, h7⟩ => ⟨ds.length - (i + 1), by omega, ρ2, G2, μ2, us2, acc2, rest2, rfl, hlt, h1, h2, h3, h4, h5, h6, h7⟩, fun x H'' hy => ?_⟩
      -- the item, in a heap where it is frozen
      have item : ∃ G2, Same G' G2 ∧ RD T (B.add D us) ρ' G2 H'' σ env μ' ∧ Rep T ρ' G2 x ds[i] := by
        rcases jy x H'' hy with ⟨e, r⟩ | ⟨q, ws, l', hn, e, ex, ed, r, z⟩
        · exact ⟨G', fun _ _ h => h, by rw [e]; exact R, r⟩
        · have gn := (R.fresh_ hn).1
          exact ⟨_, same_upd gn, by rw [e]; exact R.alloc hn, by rw [ex, ed]; exact rep_tup (.inl upd_same) z (r.mono (same_upd gn) (.refl _))⟩
      obtain ⟨G2, s2, R2, rx⟩ := item
      rw [List.drop_eq_getElem_cons hlt] at hrun
      unfold lcRun at hrun
      split at hrun
      · cases hrun
      · rename_i env1 he1
        have hout := gd.out _ _ _ he1
        refine gd.ok (B.add D us) ρ' G2 H'' (wipe σ vs) (wipeD env vs) μ' x _ env1 _ (R2.wipe vs) rx he1 fun σ2 R3 hw ho => ⟨by rw [hw vs his]; exact wipe_wipe, ?_⟩
        have agE : ∀ j, j ∉ vs → env1[j]? = env[j]? := fun j hj => by rw [hout j fun m => hj (his j m), wipeD_out hj]
        have agS : ∀ j, j ∉ vs → σ2[j]? = σ[j]? := fun j hj => by rw [ho j fun m => hj (his j m), wipe_out hj]
        split at hrun
        · rename_i μ2 ht
          refine ⟨B.add D us, ρ', G2, env1, μ', R3, ?_⟩
          rw [ht]
          intro ρ3 G3 H3 s3 p3 R4
          show (if true = true then _ else _)
          rw [if_pos rfl]
          split at hrun
          · rename_i d' μ3 he
            split at hrun
            · rename_i hb
              split at hrun
              · rename_i l3 μ4 hrest
                cases hrun
                refine ⟨B.add D us, ρ3, G3, env1, μ2, R4, ?_⟩
                rw [he]
                intro ρ4 G4 H4 s4 p4 R5 y hy2
                obtain ⟨G5, s5, R6, hh⟩ := hy2.hold R5
                have ry := hh.rep (hold_nobor hb)
                have S : Same G' G5 := ((s2.trans s3).trans s4).trans s5
                have P : Pre ρ' ρ4 := p3.trans p4
                have R7 : RD T (B.add D us) ρ4 G5 H4 σ env μ3 := R.back R6 S P no agE agS
                have hD4 := R7.delX.2.1
                have hul : us.length = acc.length := ra.length
                refine ⟨us, hD4, szl_line' (by omega : us.length < ds.length) wk.sz, ρ4, G5, μ3, us ++ [y], acc ++ [Dv.hold d'], l3, s.trans S, p.trans P, R7.updX, (ra.mono S P).append (.one ry), by simp; omega, hrest, by rw [← hl]; simp⟩
              · cases hrun
            · cases hrun
          · cases hrun
        · rename_i μ2 ht
          refine ⟨B.add D us, ρ', G2, env1, μ', R3, ?_⟩
          rw [ht]
          intro ρ3 G3 H3 s3 p3 R4
          show (if false = true then _ else _)
          rw [if_neg (by decide)]
          have S : Same G' G3 := s2.trans s3
          exact ⟨ρ3, G3, μ2, us, acc, rest, s.trans S, p.trans p3, R.back R4 S p3 no agE agS, ra.mono S p3, by omega, hrun, hl⟩
        · cases hrun
    · have e : i = ds.length := by omega
      subst e
      rw [List.drop_length] at hrun
      unfold lcRun at hrun
      cases hrun
      refine .inl ⟨wk.stop ρ' G' H' s p R.gh, ?_⟩
      obtain ⟨R0, h1, h2, h3, h4, h5, h6⟩ := R.delX
      rw [List.append_nil] at hl
      subst hl
      exact fin ρ' G' H' (.ref D) s p R0 ⟨D, us, rfl, h1, ra, Nat.le_trans la wk.sz, h2, h3, h4, h5, h6⟩
end
end Dv

/-! DvG: comprehensions as expressions, calls of built-ins, subscripts, slices, isinstance. -/
namespace Dv
open PySem PySem.Spec PyProof.Rows L2
section
variable {X : Cx} {B : Bs} {W : WX}
/-- the element's and the tests' readings in a block, whatever list is at hand there -/
def exE (T : Tx) (el : DEx) : TE := fun σ H Q => ∃ B', rdE T B' W0 el σ H Q
def exT (T : Tx) (tt : DEnv → Mu → Res Bool) : TT := fun σ H Q => ∃ B', rdT T B' W0 tt σ H Q
theorem pe_ex {Y : Cx} {e : Expr} {el : DEx} (h : ∀ B, DE Y B W0 e el) : PE Y e (exE (tx Y) el) := ⟨fun pins s σ H Q I ⟨B', q⟩ => (h B').run.run pins s σ H Q I q⟩
theorem pt_ex {Y : Cx} {ifs : List Expr} {tt : DEnv → Mu → Res Bool} (h : ∀ B, DTs Y B W0 ifs tt) : PTs Y ifs (exT (tx Y) tt) := ⟨fun pins s σ H Q I ⟨B', q⟩ => (h B').run.run pins s σ H Q I q⟩
theorem rd_tLc {T : Tx} {it : DEnv → Mu → Res (List D)} {g : TG} {tg : DTg} {is : List Nat} {tt : DEnv → Mu → Res Bool} {el : DEx} {vs : List Nat} (gd : GD T.K T.mg g tg is) (his : ∀ i ∈ is, i ∈ vs) {σ : L2.St} {H : Hp} {Q : VK}
    (h : rdE T B W (dLc it vs tg tt el) σ H Q) : tLc (rdI T B W it) g (exT T tt) (exE T el) vs σ H Q := by
  obtain ⟨ρ, G, env, μ, R, k⟩ := h
  unfold dLc at k
  split at k
  · rename_i no
    refine ⟨ρ, G, env, μ, R, (KE.bind (f := lcFin tg tt el (wipeD env vs)) k).imp fun ρ1 G1 H1 μ1 ds s p R1 k1 J wk => ?_⟩
    unfold lcFin at k1
    split at k1
    · rename_i l μ2 hr
      exact rd_lc gd his no R1 wk hr fun ρ' G' H' v s' p' R' hv => k1 ρ' G' H' s' p' R' v hv
    · exact k1.elim
  · exact k.elim
theorem de_lc {elt tg iter : Expr} {ifs : List Expr} {scope : Scope} {own : List (Str × Nat)} {pos : Pos} {it : DEnv → Mu → Res (List D)} {g : TG} {t : DTg} {is : List Nat} {tt : DEnv → Mu → Res Bool} {el : DEx}
    (hc : X.calm = true) (hN : X.N.Nodup) (hi : DI X B W tg iter it) (ok : BlkOk X.N X.env.scope scope own) (gd : GD X.K X.mg g t is) (his : ∀ i ∈ is, i ∈ own.map (·.2))
    (hg : ∀ (s : Shared) (H : Hp) (C : Addr) (cl : List (Str × Addr)) (fp : List Addr), PG (X.blk s H scope (compEnvC scope cl C X.env) fp) tg g)
    (ht : ∀ (s : Shared) (H : Hp) (C : Addr) (cl : List (Str × Addr)) (fp : List Addr) (B : Bs), DTs (X.blk s H scope (compEnvC scope cl C X.env) fp) B W0 ifs tt)
    (he : ∀ (s : Shared) (H : Hp) (C : Addr) (cl : List (Str × Addr)) (fp : List Addr) (B : Bs), DE (X.blk s H scope (compEnvC scope cl C X.env) fp) B W0 elt el) (hs : ∀ x, foldedSetIterable iter X.env x = pure x := by intro _; rfl) :
    DE X B W (.ListComp elt [⟨tg, iter, ifs, 0⟩] scope pos) (dLc it (own.map (·.2)) t tt el) :=
  ⟨peImp (pe_lc (te := exE (tx X) el) (tt := exT (tx X) tt) hc hN hi.run ok hg (fun s H C cl fp => pt_ex (ht s H C cl fp)) (fun s H C cl fp => pe_ex (he s H C cl fp)) hs) fun _ _ _ h => rd_tLc gd his h⟩
/-! ### calls of what is built in -/
abbrev FA := List D → Mu → Res D
def CallD (T : Tx) (r : List V → Hp → VK → Prop) (f : FA) : Prop := ∀ (B : Bs) (W : WX) (σ : L2.St) (env : DEnv) (ρ : List Addr) (G H : Hp) (μ : Mu) (vs : List V) (ds : List D) (Q : VK),
  RD T B ρ G H σ env μ → HReps T ρ G σ env vs ds → KE T B σ env W (PX T B σ env Q) ρ G (f ds μ) → r vs H Q
def dCall (f : FA) (n : DEnv → Mu → Res (List D)) : DEx := fun env μ => bindR (n env μ) f
theorem rd_call {T : Tx} {r : List V → Hp → VK → Prop} {f : FA} {n : DEnv → Mu → Res (List D)} (hf : CallD T r f) {σ : L2.St} {H : Hp} {Q : VK} (h : rdE T B W (dCall f n) σ H Q) : tCB r (rdA T B W n) σ H Q := by
  obtain ⟨ρ, G, env, μ, R, k⟩ := h
  exact ⟨ρ, G, env, μ, R, (KE.bind (f := f) k).imp fun ρ1 G1 H1 μ1 ds s p R1 k1 vs hvs => hf B W σ env ρ1 G1 H1 μ1 vs ds Q R1 hvs k1⟩
theorem de_callB {x : Str} {p pos : Pos} {e : Expr} {es : List Expr} {n : DEnv → Mu → Res (List D)} {id : String} {r : List V → Hp → VK → Prop} {f : FA} (hc : CallR X (.builtin id) r) (hf : CallD (tx X) r f) (hg : Gl X x) (hm : X.mg x = none) (hv : bootBuiltins x = some (.builtin id)) (ha : DA X B W (e :: es) n)
    (hn : x ≠ "__name__" := by decide) (hdb : (x == ("__debug__" : Str)) = false := by decide) (he : starEach (e :: es) X.env = (false, eval e X.env) :: starEach es X.env := by rfl) (hpl : (backTo pos (starEach es X.env)).any (·.1) = false := by rfl) :
    DE X B W (.Call (.Name x p) (e :: es) [] pos) (dCall f n) := ⟨peImp (pe_callB hc hg hm hv ha.run hn hdb he hpl) fun _ _ _ h => rd_call hf h⟩
theorem de_callTy {x : Str} {p pos : Pos} {e : Expr} {es : List Expr} {n : DEnv → Mu → Res (List D)} {id : String} {r : List V → Hp → VK → Prop} {f : FA} (hc : CallR X (.type id) r) (hf : CallD (tx X) r f) (hg : Gl X x) (hm : X.mg x = none) (hv : bootBuiltins x = some (.type id)) (ha : DA X B W (e :: es) n)
    (hn : x ≠ "__name__" := by decide) (hdb : (x == ("__debug__" : Str)) = false := by decide) (he : starEach (e :: es) X.env = (false, eval e X.env) :: starEach es X.env := by rfl) (hpl : (backTo pos (starEach es X.env)).any (·.1) = false := by rfl) :
    DE X B W (.Call (.Name x p) (e :: es) [] pos) (dCall f n) := ⟨peImp (pe_callTy hc hg hm hv ha.run hn hdb he hpl) fun _ _ _ h => rd_call hf h⟩
/-! ### len, tuple, list, sum, any, all, int -/
section
variable {T : Tx} {ρ : List Addr} {G H : Hp} {σ : L2.St} {env : DEnv} {μ : Mu}
def fLen : FA
  | [.tup l], μ => ret (.int l.length) μ
  | [.lst l], μ => ret (.int l.length) μ
  | [.bor l], μ => ret (.int l.length) μ
  | [.str z], μ => if szl z.length then ret (.int z.length) μ else none
  | _, _ => none
theorem ca_len : CallD (tx X) (fun xs H Q => ∃ x n, xs = [x] ∧ LenV X.K x H n ∧ Q (.int n) H) fLen := by
  intro B W σ env ρ G H μ vs ds Q R h k
  have one : ∀ {d : D} {l : List D}, seqL d = some l → HReps (tx X) ρ G σ env vs [d] → KE (tx X) B σ env W (PX (tx X) B σ env Q) ρ G (ret (.int l.length) μ) → ∃ x n, vs = [x] ∧ LenV X.K x H n ∧ Q (.int n) H := fun {d l} e h k => by
    obtain ⟨v, rfl, hv⟩ := hreps1 h
    obtain ⟨a, us, rfl, q, z, r⟩ := seqL_inv R hv e
    exact ⟨.ref a, l.length, rfl, .inl ⟨us, .of q, r.length.symm⟩, k.here R (.ofR rep_int)⟩
  unfold fLen at k
  split at k
  · obtain ⟨v, rfl, hv⟩ := hreps1 h
    obtain ⟨a, us, rfl, q, z, r⟩ := tup_inv hv
    exact ⟨.ref a, _, rfl, .inr ⟨us, (sqG_mono R.gh q).sq, r.length.symm⟩, k.here R (.ofR rep_int)⟩
  · exact one rfl h k
  · exact one rfl h k
  · split at k
    · rename_i hz
      obtain ⟨v, rfl, hv⟩ := hreps1 h
      rw [str_inv hv]
      exact ⟨_, _, rfl, ⟨szl_line hz, rfl⟩, k.here R (.ofR rep_int)⟩
    · exact k.elim
  · exact k.elim
def fTuple : FA
  | [.tup l], μ => ret (.tup l) μ
  | [.lst l], μ => ret (.tup l) μ
  | [.bor l], μ => ret (.tup l) μ
  | _, _ => none
theorem ca_tuple : CallD (tx X) (fun xs H Q => ∃ p ys, xs = [.ref p] ∧ ((SqL X.K H p ys ∧ ∀ l, H l = none → Q (.ref l) (upd H l (.tup ys))) ∨ (SqT X.K H p ys ∧ Q (.ref p) H))) fTuple := by
  intro B W σ env ρ G H μ vs ds Q R h k
  have one : ∀ {d : D} {l : List D}, seqL d = some l → HReps (tx X) ρ G σ env vs [d] → KE (tx X) B σ env W (PX (tx X) B σ env Q) ρ G (ret (.tup l) μ) → ∃ p ys, vs = [.ref p] ∧ ((SqL X.K H p ys ∧ ∀ l, H l = none → Q (.ref l) (upd H l (.tup ys))) ∨ (SqT X.K H p ys ∧ Q (.ref p) H)) := fun {d l} e h k => by
    obtain ⟨v, rfl, hv⟩ := hreps1 h
    obtain ⟨a, us, rfl, q, z, r⟩ := seqL_inv R hv e
    exact ⟨a, us, rfl, .inl ⟨.of q, k.newT R r z⟩⟩
  unfold fTuple at k
  split at k
  · obtain ⟨v, rfl, hv⟩ := hreps1 h
    obtain ⟨a, us, rfl, q, z, r⟩ := tup_inv hv
    exact ⟨a, us, rfl, .inr ⟨(sqG_mono R.gh q).sq, k.here R (.ofR (rep_tup q z r))⟩⟩
  · exact one rfl h k
  · exact one rfl h k
  · exact k.elim
def fList : FA
  | [.tup l], μ => ret (.new l) μ
  | [.lst l], μ => ret (.new l) μ
  | [.bor l], μ => ret (.new l) μ
  | _, _ => none
theorem ca_list : CallD (tx X) (fun xs H Q => ∃ p ys, xs = [.ref p] ∧ (SqL X.K H p ys ∨ SqT X.K H p ys) ∧ ∀ l, H l = none → Q (.ref l) (upd H l (.lst ys))) fList := by
  intro B W σ env ρ G H μ vs ds Q R h k
  have one : ∀ {d : D} {l : List D}, seqL d = some l → HReps (tx X) ρ G σ env vs [d] → KE (tx X) B σ env W (PX (tx X) B σ env Q) ρ G (ret (.new l) μ) → ∃ p ys, vs = [.ref p] ∧ (SqL X.K H p ys ∨ SqT X.K H p ys) ∧ ∀ l, H l = none → Q (.ref l) (upd H l (.lst ys)) := fun {d l} e h k => by
    obtain ⟨v, rfl, hv⟩ := hreps1 h
    obtain ⟨a, us, rfl, q, z, r⟩ := seqL_inv R hv e
    exact ⟨a, us, rfl, .inl (.of q), k.newL R r z⟩
  unfold fList at k
  split at k
  · obtain ⟨v, rfl, hv⟩ := hreps1 h
    obtain ⟨a, us, rfl, q, z, r⟩ := tup_inv hv
    exact ⟨a, us, rfl, .inr (sqG_mono R.gh q).sq, k.newL R r z⟩
  · exact one rfl h k
  · exact one rfl h k
  · exact k.elim
def asInt : D → Option Int
  | .int i => some i
  | _ => none
def asBl : D → Option Bool
  | .bl i => some i
  | _ => none
def asInts : List D → Option (List Int)
  | [] => some []
  | d :: ds => (match asInt d, asInts ds with
    | some i, some l => some (i :: l)
    | _, _ => none)
def asBls : List D → Option (List Bool)
  | [] => some []
  | d :: ds => (match asBl d, asBls ds with
    | some i, some l => some (i :: l)
    | _, _ => none)
theorem asInts_inv : ∀ {l : List D} {ns : List Int} {vs : List V}, asInts l = some ns → Reps T ρ G vs l → vs = ns.map V.int
  | [], ns, vs, e, r => by unfold asInts at e; cases e; rw [r.inv0]; rfl
  | d :: ds, ns, vs, e, r => by
    unfold asInts at e
    split at e
    · rename_i i l e1 e2
      cases e
      obtain ⟨v, t, rfl, q, rs⟩ := r.inv
      cases d with
      | int j =>
        cases e1
        unfold Rep at q
        rw [q, asInts_inv e2 rs]; rfl
      | _ => cases e1
    · cases e
theorem asBls_inv : ∀ {l : List D} {ns : List Bool} {vs : List V}, asBls l = some ns → Reps T ρ G vs l → vs = ns.map V.bl
  | [], ns, vs, e, r => by unfold asBls at e; cases e; rw [r.inv0]; rfl
  | d :: ds, ns, vs, e, r => by
    unfold asBls at e
    split at e
    · rename_i i l e1 e2
      cases e
      obtain ⟨v, t, rfl, q, rs⟩ := r.inv
      cases d with
      | bl j =>
        cases e1
        unfold Rep at q
        rw [q, asBls_inv e2 rs]; rfl
      | _ => cases e1
    · cases e
def fSum : FA
  | [d], μ => (match seqL d with
    | some l => (match asInts l with
      | some ns => ret (.int ns.sum) μ
      | none => none)
    | none => none)
  | _, _ => none
def fAll : FA
  | [d], μ => (match seqL d with
    | some l => (match asBls l with
      | some ns => ret (.bl (ns.all id)) μ
      | none => none)
    | none => none)
  | _, _ => none
def fAny : FA
  | [d], μ => (match seqL d with
    | some l => (match asBls l with
      | some ns => ret (.bl (ns.any id)) μ
      | none => none)
    | none => none)
  | _, _ => none
theorem ca_sum : CallD (tx X) (rSum X.K) fSum := by
  intro B W σ env ρ G H μ vs ds Q R h k
  unfold fSum at k
  split at k
  · split at k
    · split at k
      · rename_i e1 _ ns e2
        obtain ⟨v, rfl, hv⟩ := hreps1 h
        obtain ⟨a, us, rfl, q, z, r⟩ := seqL_inv R hv e1
        exact ⟨a, ns, rfl, by rw [← asInts_inv e2 r]; exact .of q, k.here R (.ofR rep_int)⟩
      · exact k.elim
    · exact k.elim
  · exact k.elim
theorem ca_all : CallD (tx X) (rAll X.K) fAll := by
  intro B W σ env ρ G H μ vs ds Q R h k
  unfold fAll at k
  split at k
  · split at k
    · split at k
      · rename_i e1 _ ns e2
        obtain ⟨v, rfl, hv⟩ := hreps1 h
        obtain ⟨a, us, rfl, q, z, r⟩ := seqL_inv R hv e1
        exact ⟨a, ns, rfl, by rw [← asBls_inv e2 r]; exact .of q, k.here R (.ofR rep_bl)⟩
      · exact k.elim
    · exact k.elim
  · exact k.elim
theorem ca_any : CallD (tx X) (rAny X.K) fAny := by
  intro B W σ env ρ G H μ vs ds Q R h k
  unfold fAny at k
  split at k
  · split at k
    · split at k
      · rename_i e1 _ ns e2
        obtain ⟨v, rfl, hv⟩ := hreps1 h
        obtain ⟨a, us, rfl, q, z, r⟩ := seqL_inv R hv e1
        exact ⟨a, ns, rfl, by rw [← asBls_inv e2 r]; exact .of q, k.here R (.ofR rep_bl)⟩
      · exact k.elim
    · exact k.elim
  · exact k.elim
def fInt : FA
  | [.int i], μ => ret (.int i) μ
  | [.bl b], μ => ret (.int (if b then 1 else 0)) μ
  | _, _ => none
theorem ca_int : CallD (tx X) (fun xs H Q => (∃ i, xs = [.int i] ∧ Q (.int i) H) ∨ ∃ k, xs = [.bl k] ∧ Q (.int (if k then 1 else 0)) H) fInt := by
  intro B W σ env ρ G H μ vs ds Q R h k
  unfold fInt at k
  split at k
  · obtain ⟨v, rfl, hv⟩ := hreps1 h
    exact .inl ⟨_, by rw [int_inv hv], k.here R (.ofR rep_int)⟩
  · obtain ⟨v, rfl, hv⟩ := hreps1 h
    exact .inr ⟨_, by rw [bl_inv hv], k.here R (.ofR rep_int)⟩
  · exact k.elim
/-! ### isinstance, built-in types -/
def tyN : D → Option String
  | .non => some "NoneType"
  | .bl _ => some "bool"
  | .int _ => some "int"
  | .str _ => some "str"
  | .tup _ => some "tuple"
  | .lst _ => some "list"
  | .bor _ => some "list"
  | _ => none
def isTy (a b : String) : Bool := a == b || (a == "bool" && b == "int")
def okTy (b : String) : Bool := ["int", "bool", "str", "tuple", "list"].contains b
theorem kitB_is : ∀ a ∈ ["NoneType", "bool", "int", "str", "tuple", "list"], ∀ b ∈ ["int", "bool", "str", "tuple", "list"], kitB a b = some (isTy a b) := by decide +kernel
theorem tyN_mem {d : D} {a : String} (h : tyN d = some a) : a ∈ ["NoneType", "bool", "int", "str", "tuple", "list"] := by
  cases d <;> first | (cases h; simp) | cases h
theorem kit_is {K : PySem.W.Frag} {d : D} {a b : String} (h : tyN d = some a) (hb : okTy b = true) : PySem.W.kitOne K (.type a) (.type b) = some (isTy a b) :=
  kit_ty (kitB_is a (tyN_mem h) b (by unfold okTy at hb; simpa using hb))
theorem tyX_of {B : Bs} {x : V} {d : D} {a : String} (R : RD T B ρ G H σ env μ) (h : HeldR T ρ G σ env x d) (e : tyN d = some a) : TyX T.K H x (.type a) := by
  cases d with
  | non => cases e; have h : Rep T ρ G x .non := h; unfold Rep at h; subst h; exact .base .non
  | bl b => cases e; rw [bl_inv h]; exact .base (.bl b)
  | int b => cases e; rw [int_inv h]; exact .base (.int b)
  | str b => cases e; rw [str_inv h]; exact .base (.str b)
  | tup l =>
    cases e
    obtain ⟨a, us, rfl, q, _⟩ := tup_inv h
    rcases q with q | ⟨o, its, n, h1, h2, _⟩
    · exact .base (.tup (R.gh _ _ q))
    · exact .kTuple h1 h2
  | lst l =>
    cases e
    obtain ⟨a, us, rfl, q, _⟩ := lst_inv h
    exact .base (.lst (R.gh _ _ q))
  | bor l =>
    cases e
    obtain ⟨a, us, rfl, q, _⟩ := seqL_inv (d := .bor l) R h rfl
    exact .base (.lst q)
  | _ => cases e
def asTys : List D → Option (List String)
  | [] => some []
  | .ty n :: ds => (match asTys ds with
    | some l => if okTy n then some (n :: l) else none
    | none => none)
  | _ :: _ => none
def fIsi : FA
  | [d, .ty b], μ => (match tyN d with
    | some a => if okTy b then ret (.bl (isTy a b)) μ else none
    | none => none)
  | [d, .tup l], μ => (match tyN d, asTys l with
    | some a, some bs => ret (.bl (bs.any (isTy a))) μ
    | _, _ => none)
  | _, _ => none
theorem asTys_inv {a : String} {d : D} (ha : tyN d = some a) : ∀ {l : List D} {bs : List String} {vs : List V}, asTys l = some bs → Reps T ρ G vs l → Paired ClsV vs (bs.map Value.type) ∧ PySem.W.kitAny T.K (.type a) (bs.map Value.type) = some (bs.any (isTy a))
  | [], bs, vs, e, r => by unfold asTys at e; cases e; rw [r.inv0]; exact ⟨.nil, kitAny_nil⟩
  | d' :: ds, bs, vs, e, r => by
    unfold asTys at e
    split at e
    · rename_i z; cases z
    · rename_i n ds' heq
      cases heq
      split at e
      · rename_i l e2
        split at e
        · rename_i hok
          cases e
          obtain ⟨v, t, rfl, q, rs⟩ := r.inv
          unfold Rep at q
          obtain ⟨p1, p2⟩ := asTys_inv ha e2 rs
          refine ⟨.cons (by rw [q]; exact .ty n) p1, ?_⟩
          refine kitAny_cons (kit_is ha hok) (fun z => ?_) fun z => ?_
          · rw [List.any_cons, z, Bool.false_or]; exact p2
          · rw [List.any_cons, z, Bool.true_or]
        · cases e
      · cases e
    · cases e
theorem ca_isi : CallD (tx X) (fun xs H Q => rIsi X.K xs H Q ∨ rIsiT X.K xs H Q ∨ rIsiK X.K xs H Q) fIsi := by
  intro B W σ env ρ G H μ vs ds Q R h k
  unfold fIsi at k
  split at k
  · split at k
    · rename_i d b _ a ha
      split at k
      · rename_i hok
        obtain ⟨v, u, rfl, hv, hu⟩ := hreps2 h
        have hu : Rep (tx X) ρ G u (.ty b) := hu
        unfold Rep at hu
        exact .inl ⟨v, u, _, _, _, rfl, by rw [hu]; exact .ty b, tyX_of R hv ha, kit_is ha hok, k.here R (.ofR rep_bl)⟩
      · exact k.elim
    · exact k.elim
  · split at k
    · rename_i d l _ _ a bs ha hb
      obtain ⟨v, u, rfl, hv, hu⟩ := hreps2 h
      obtain ⟨t, cs, rfl, q, z, r⟩ := tup_inv hu
      obtain ⟨p1, p2⟩ := asTys_inv ha hb r
      rcases q with q | ⟨o, its, n, h1, h2, h3, _, h5⟩
      · exact .inr (.inl ⟨v, t, cs, _, _, _, rfl, R.gh _ _ q, p1, tyX_of R hv ha, p2, k.here R (.ofR rep_bl)⟩)
      · obtain ⟨oc, od, dt, sl⟩ := o
        simp only at h2 h3
        subst h2 h3
        have e := ClsV.all p1 h5
        exact .inr (.inr ⟨v, t, od, bs.map Value.type, n, sl, _, _, rfl, by rw [h1, ← e], tyX_of R hv ha, p2, k.here R (.ofR rep_bl)⟩)
    · exact k.elim
  · exact k.elim
end
end
end Dv

/-! DvH: subscripts, slices; statements; defs and their calls. -/
namespace Dv
open PySem PySem.Spec PyProof.Rows L2
section
variable {X : Cx} {B : Bs} {W : WX}
/-! ### subscripts -/
theorem atI_reps {T : Tx} {ρ : List Addr} {G : Hp} {l : List D} {vs : List V} {i : Int} {d : D} (r : Reps T ρ G vs l) (h : atI l i = some d) : ∃ v, atI vs i = some v ∧ Rep T ρ G v d := by
  unfold atI at h ⊢
  rw [r.length]
  cases e : ixN l.length i with
  | none => rw [e] at h; cases h
  | some j =>
    rw [e] at h
    exact r.get (show l[j]? = some d from h)
def fIx : F2
  | .tup l, .int i, μ => (match atI l i with
    | some d => ret d μ
    | none => none)
  | .lst l, .int i, μ => (match atI l i with
    | some d => ret d μ
    | none => none)
  | .bor l, .int i, μ => (match atI l i with
    | some d => ret d μ
    | none => none)
  | .str z, .int i, μ => (match atI z.cps.toList i with
    | some c => if szl z.length then ret (.str ⟨#[c]⟩) μ else none
    | none => none)
  | _, _, _ => none
theorem opd_ix : OpD (tx X) (rIx X.K) fIx := by
  intro B W σ env ρ G H μ x y d d' Q R hx hy k
  have one : ∀ {l : List D} {i : Int} {d' : D}, seqL d = some l → HeldR (tx X) ρ G σ env y (.int i) → atI l i = some d' → KE (tx X) B σ env W (PX (tx X) B σ env Q) ρ G (ret d' μ) → rIx X.K x y H Q := fun {l i d'} e hy ha k => by
    obtain ⟨a, us, rfl, q, z, r⟩ := seqL_inv R hx e
    obtain ⟨v, e1, r1⟩ := atI_reps r ha
    exact .inl ⟨a, us, i, v, rfl, int_inv hy, .of q, e1, k.here R (.ofR r1)⟩
  unfold fIx at k
  split at k
  · split at k
    · rename_i ha
      obtain ⟨a, us, rfl, q, z, r⟩ := tup_inv hx
      obtain ⟨v, e1, r1⟩ := atI_reps r ha
      exact .inr (.inl ⟨a, us, _, v, rfl, int_inv hy, (sqG_mono R.gh q).sq, e1, k.here R (.ofR r1)⟩)
    · exact k.elim
  · split at k
    · rename_i ha
      exact one rfl hy ha k
    · exact k.elim
  · split at k
    · rename_i ha
      exact one rfl hy ha k
    · exact k.elim
  · split at k
    · rename_i ha
      split at k
      · rename_i hz
        exact .inr (.inr ⟨_, _, _, str_inv hx, int_inv hy, szl_line hz, ha, k.here R (.ofR rep_str)⟩)
      · exact k.elim
    · exact k.elim
  · exact k.elim
/-! ### slices -/
def cutD {α : Type} (l : List α) (lo hi : Option Int) : List α := (l.drop (HT.sIx l.length 0 lo)).take (HT.sIx l.length l.length hi - HT.sIx l.length 0 lo)
theorem cut_reps {T : Tx} {ρ : List Addr} {G : Hp} {l : List D} {vs : List V} {lo hi : Option Int} (r : Reps T ρ G vs l) : Reps T ρ G (cutV vs lo hi) (cutD l lo hi) := by
  unfold cutV cutD
  rw [r.length]
  exact (r.drop _).take _
theorem cut_len {α : Type} (l : List α) (lo hi : Option Int) : (cutD l lo hi).length ≤ l.length := by
  unfold cutD
  rw [List.length_take, List.length_drop]; omega
theorem slOr {r r' : V → Option Int → Option Int → Hp → VK → Prop} (h : L2.SlR X r) (h' : L2.SlR X r') : L2.SlR X (fun x lo hi H Q => r x lo hi H Q ∨ r' x lo hi H Q) :=
  fun pins s σ H x v vl vu lo hi sl Q I rx hs pl pu q => q.elim (h pins s σ H x v vl vu lo hi sl Q I rx hs pl pu) (h' pins s σ H x v vl vu lo hi sl Q I rx hs pl pu)
def rSl2 (K : PySem.W.Frag) : V → Option Int → Option Int → Hp → VK → Prop := fun x lo hi H Q => rSlL K x lo hi H Q ∨ rSlA K x lo hi H Q
theorem sl_two : L2.SlR X (rSl2 X.K) := slOr sl_list sl_tupA
def rdO (T : Tx) (B : Bs) (W : WX) (m : DEnv → Mu → Res (Option Int)) : TO := fun σ H Q => ∃ ρ G env μ, RD T B ρ G H σ env μ ∧ KE T B σ env W (fun _ _ H' _ o => Q o H') ρ G (m env μ)
structure DO (X : Cx) (B : Bs) (W : WX) (e : Option Expr) (m : DEnv → Mu → Res (Option Int)) : Prop where
  run : PO X e (rdO (tx X) B W m)
theorem poImp {e : Option Expr} {t t' : TO} (h : PO X e t) (i : ∀ σ H Q, t' σ H Q → t σ H Q) : PO X e t' := ⟨fun pins s σ H Q I q => h.run pins s σ H Q I (i σ H Q q)⟩
def dNoPart : DEnv → Mu → Res (Option Int) := fun _ μ => ret none μ
def fPart : D → Mu → Res (Option Int)
  | .int i, μ => ret (some i) μ
  | _, _ => none
def dPart (m : DEx) : DEnv → Mu → Res (Option Int) := fun env μ => bindR (m env μ) fPart
theorem do_none : DO X B W none dNoPart := ⟨poImp po_none fun σ H Q ⟨ρ, G, env, μ, R, k⟩ => k ρ G H (fun _ _ h => h) (.refl _) R⟩
theorem do_some {e : Expr} {m : DEx} (h : DE X B W e m) : DO X B W (some e) (dPart m) := by
  refine ⟨poImp (po_some h.run) fun σ H Q ⟨ρ, G, env, μ, R, k⟩ => rd_then (f := fPart) R k fun ρ1 G1 H1 μ1 x d s p R1 hx k1 => ?_⟩
  unfold fPart at k1
  split at k1
  · exact ⟨_, int_inv hx, k1 ρ1 G1 H1 (fun _ _ h => h) (.refl _) R1⟩
  · exact k1.elim
def fSl (d : D) (lo hi : Option Int) (μ : Mu) : Res D := match d with
  | .lst l => ret (.new (cutD l lo hi)) μ
  | .bor l => ret (.new (cutD l lo hi)) μ
  | .tup l => ret (.tup (cutD l lo hi)) μ
  | .scr l => ret (.new (cutD l lo hi)) μ
  | _ => none
def dSl (m : DEx) (lo hi : DEnv → Mu → Res (Option Int)) : DEx := fun env μ => bindR (m env μ) fun d μ => bindR (lo env μ) fun l μ => bindR (hi env μ) fun h μ => fSl (hold d) l h μ
theorem de_slice {e : Expr} {lo hi : Option Expr} {pos p2 : Pos} {m : DEx} {ml mh : DEnv → Mu → Res (Option Int)} (he : DE X B W e m) (hl : DO X B W lo ml) (hh : DO X B W hi mh) : DE X B W (.Subscript e (.Slice lo hi none p2) pos) (dSl m ml mh) := by
  refine ⟨peImp (pe_slice sl_two he.run hl.run hh.run) fun σ H Q ⟨ρ, G, env, μ, R, k⟩ => ?_⟩
  refine rd_then (f := fun d μ => bindR (ml env μ) fun l μ => bindR (mh env μ) fun h μ => fSl (hold d) l h μ) R k fun ρ1 G1 H1 μ1 x d s p R1 hx k1 => ?_
  refine ⟨ρ1, G1, env, μ1, R1, (KE.bind (f := fun l μ => bindR (mh env μ) fun h μ => fSl (hold d) l h μ) k1).imp fun ρ2 G2 H2 μ2 l s2 p2 R2 k2 => ?_⟩
  refine ⟨ρ2, G2, env, μ2, R2, (KE.bind (f := fun h μ => fSl (hold d) l h μ) k2).imp fun ρ3 G3 H3 μ3 h s3 p3 R3 k3 => ?_⟩
  have hx3 := (hx.mono s2 p2).mono s3 p3
  have one : ∀ {d : D} {l' : List D}, seqL d = some l' → HeldR (tx X) ρ3 G3 σ env x d → KE (tx X) B σ env W (PX (tx X) B σ env Q) ρ3 G3 (ret (.new (cutD l' l h)) μ3) → rSl2 X.K x l h H3 Q := fun {d l'} e hx k => by
    obtain ⟨a, us, rfl, q, z, r⟩ := seqL_inv R3 hx e
    exact .inl ⟨a, us, rfl, .of q, k.newL R3 (cut_reps r) (Nat.le_trans (cut_len _ _ _) z)⟩
  unfold fSl at k3
  split at k3
  · rename_i l' e; rw [e] at hx3; exact one rfl hx3 k3
  · rename_i l' e; rw [e] at hx3; exact one rfl hx3 k3
  · rename_i l' e
    rw [e] at hx3
    obtain ⟨a, us, rfl, q, z, r⟩ := tup_inv hx3
    have hlen := r.length
    refine .inr ⟨a, us, rfl, (sqG_mono R3.gh q).sq, fun ⟨h1, h2⟩ => ?_, fun _ => k3.newT R3 (cut_reps r) (Nat.le_trans (cut_len _ _ _) z)⟩
    have e1 : cutD l' l h = l' := by
      unfold cutD
      rw [← hlen, h1, h2]; simp [hlen]
    rw [e1] at k3
    exact k3.here R3 (.ofR (rep_tup q z r))
  · rename_i l' e
    rw [e] at hx3
    have hx3 : Rep (tx X) ρ3 G3 x (.scr l') := hx3
    unfold Rep at hx3
    obtain ⟨a, us, rfl, q, z, r⟩ := hx3
    exact .inl ⟨a, us, rfl, sqL_mono R3.gh q, k3.newL R3 (cut_reps r) (Nat.le_trans (cut_len _ _ _) z)⟩
  · exact k3.elim
end

/-! ### statements -/
inductive Fl where
  | nx | ret (d : D) | brk | ct
abbrev RS := Option (Out Fl × DEnv × Mu)
abbrev DSt := DEnv → Mu → RS
def KS (T : Tx) (B : Bs) (W : WX) (D : Ends) (ρ : List Addr) (G : Hp) : RS → Prop
  | some (.val .nx, env', μ') => ∀ σ' ρ' G' H', Same G G' → Pre ρ ρ' → RD T B ρ' G' H' σ' env' μ' → D.nx σ' H'
  | some (.val .brk, env', μ') => ∀ σ' ρ' G' H', Same G G' → Pre ρ ρ' → RD T B ρ' G' H' σ' env' μ' → D.bk σ' H'
  | some (.val .ct, env', μ') => ∀ σ' ρ' G' H', Same G G' → Pre ρ ρ' → RD T B ρ' G' H' σ' env' μ' → D.ct σ' H'
  | some (.val (.ret d), _, μ') => ∀ σ' env' ρ' G' H' v, Same G G' → Pre ρ ρ' → RD T B ρ' G' H' σ' env' μ' → RepX T B ρ' G' H' σ' env' v d → D.rt v H'
  | some (.exc x, env', μ') => ∀ σ' ρ' G' H' cls dd, Same G G' → Pre ρ ρ' → RD T B ρ' G' H' σ' env' μ' → ExR T ρ' G' H' cls dd x → W cls dd σ' H'
  | none => False
def rdS (T : Tx) (B : Bs) (W : WX) (m : DSt) : TS := fun D σ H => ∃ ρ G env μ, RD T B ρ G H σ env μ ∧ KS T B W D ρ G (m env μ)
structure DS (X : Cx) (B : Bs) (W : WX) (st : Stmt) (m : DSt) : Prop where
  run : PS X st (rdS (tx X) B W m)
structure DSs (X : Cx) (B : Bs) (W : WX) (sts : List Stmt) (m : DSt) : Prop where
  run : PSs X sts (rdS (tx X) B W m)
section
variable {X : Cx} {B : Bs} {W : WX} {T : Tx} {st : Stmt} {sts : List Stmt}
theorem psImp {t t' : TS} (h : PS X st t) (i : ∀ D σ H, t' D σ H → t D σ H) : PS X st t' := ⟨fun pins s σ H D I q => h.run pins s σ H D I (i D σ H q)⟩
theorem pssImp {t t' : TS} (h : PSs X sts t) (i : ∀ D σ H, t' D σ H → t D σ H) : PSs X sts t' := ⟨fun pins s σ H D I q => h.run pins s σ H D I (i D σ H q)⟩
theorem KS.weak {D : Ends} {ρ ρ' : List Addr} {G G' : Hp} {r : RS} (h : KS T B W D ρ G r) (s : Same G G') (p : Pre ρ ρ') : KS T B W D ρ' G' r := by
  match r, h with
  | some (.val .nx, env, μ), h => exact fun σ2 ρ2 G2 H2 s2 p2 R => h σ2 ρ2 G2 H2 (s.trans s2) (p.trans p2) R
  | some (.val .brk, env, μ), h => exact fun σ2 ρ2 G2 H2 s2 p2 R => h σ2 ρ2 G2 H2 (s.trans s2) (p.trans p2) R
  | some (.val .ct, env, μ), h => exact fun σ2 ρ2 G2 H2 s2 p2 R => h σ2 ρ2 G2 H2 (s.trans s2) (p.trans p2) R
  | some (.val (.ret d), env, μ), h => exact fun σ2 e2 ρ2 G2 H2 v s2 p2 R => h σ2 e2 ρ2 G2 H2 v (s.trans s2) (p.trans p2) R
  | some (.exc x, env, μ), h => exact fun σ2 ρ2 G2 H2 c d s2 p2 R => h σ2 ρ2 G2 H2 c d (s.trans s2) (p.trans p2) R
/-- a value, then a statement's rest -/
@[reducible] def bindS {α : Type} (env : DEnv) (r : Res α) (f : α → Mu → RS) : RS := match r with
  | some (.val a, μ) => f a μ
  | some (.exc x, μ) => some (.exc x, env, μ)
  | none => none
theorem KS.bind {α : Type} {D : Ends} {ρ : List Addr} {G : Hp} {σ : L2.St} {env : DEnv} {r : Res α} {f : α → Mu → RS} (h : KS T B W D ρ G (bindS env r f)) : KE T B σ env W (fun ρ1 G1 _ μ1 a => KS T B W D ρ1 G1 (f a μ1)) ρ G r := by
  match r, h with
  | some (.val a, μ), h => exact fun ρ2 G2 H2 s2 p2 R => KS.weak (r := f a μ) h s2 p2
  | some (.exc x, μ), h => exact fun ρ2 G2 H2 c d s2 p2 R e => h σ ρ2 G2 H2 c d s2 p2 R e
def dSkip : DSt := fun env μ => some (.val .nx, env, μ)
def dSeq (a b : DSt) : DSt := fun env μ => match a env μ with
  | some (.val .nx, env', μ') => b env' μ'
  | r => r
theorem dss_nil : DSs X B W [] dSkip := ⟨pssImp pss_nil fun D σ H ⟨ρ, G, env, μ, R, k⟩ => k σ ρ G H (fun _ _ h => h) (.refl _) R⟩
theorem dss_cons {a b : DSt} (h : DS X B W st a) (g : DSs X B W sts b) : DSs X B W (st :: sts) (dSeq a b) := by
  refine ⟨pssImp (pss_cons h.run g.run) fun D σ H ⟨ρ, G, env, μ, R, k⟩ => ⟨ρ, G, env, μ, R, ?_⟩⟩
  unfold dSeq at k
  cases hr : a env μ with
  | none => rw [hr] at k; exact k.elim
  | some q =>
    obtain ⟨o, e', μ'⟩ := q
    rw [hr] at k
    cases o with
    | exc x => exact k
    | val f =>
      cases f with
      | nx => exact fun σ' ρ' G' H' s p R' => ⟨ρ', G', e', μ', R', KS.weak (r := b e' μ') k s p⟩
      | ret d => exact k
      | brk => exact k
      | ct => exact k
theorem dss_one {a : DSt} (h : DS X B W st a) : DSs X B W [st] a := ⟨pss_one h.run⟩
/-! ### small ones -/
theorem ds_pass {pos : Pos} : DS X B W (.Pass pos) dSkip := ⟨psImp ps_pass fun D σ H ⟨ρ, G, env, μ, R, k⟩ => k σ ρ G H (fun _ _ h => h) (.refl _) R⟩
def dBreak : DSt := fun env μ => some (.val .brk, env, μ)
def dCont : DSt := fun env μ => some (.val .ct, env, μ)
theorem ds_break {pos : Pos} : DS X B W (.Break pos) dBreak := ⟨psImp ps_break fun D σ H ⟨ρ, G, env, μ, R, k⟩ => k σ ρ G H (fun _ _ h => h) (.refl _) R⟩
theorem ds_cont {pos : Pos} : DS X B W (.Continue pos) dCont := ⟨psImp ps_continue fun D σ H ⟨ρ, G, env, μ, R, k⟩ => k σ ρ G H (fun _ _ h => h) (.refl _) R⟩
def unbor : D → D
  | .bor l => .new l
  | d => d
def dRet (m : DEx) : DSt := fun env μ => bindS env (m env μ) fun d μ => some (.val (.ret (unbor d)), env, μ)
/-- a list of one's own is given away -/
theorem RepX.unbor {ρ : List Addr} {G H : Hp} {σ : L2.St} {env : DEnv} {μ : Mu} {v : V} {d : D} (R : RD T B ρ G H σ env μ) (h : RepX T B ρ G H σ env v d) : ∃ env', RD T B ρ G H σ env' μ ∧ RepX T B ρ G H σ env' v (unbor d) := by
  cases d with
  | bor l =>
    obtain ⟨i, p, e1, e2, rfl⟩ := h
    obtain ⟨p', vs, e3, e4, e5, e6, e7, e8, e9⟩ := R.slot i _ e1
    rw [e2] at e3; cases e3
    have R' : RD T B ρ G H (σ.set i (some (.ref p))) (env.set i .no) μ := R.setG (fun _ => by simp) fun d' e => by cases e
    have eσ : σ.set i (some (.ref p)) = σ := by
      apply List.ext_getElem?
      intro j
      by_cases q : i = j
      · subst q
        rw [List.getElem?_set_self (List.getElem?_eq_some_iff.mp e2).1, e2]
      · rw [List.getElem?_set_ne q]
    rw [eσ] at R'
    refine ⟨env.set i .no, R', p, vs, rfl, e4, e5, e6, e7, e8, e9, fun j l' h1 h2 => ?_, fun q hq e => ?_⟩
    · obtain ⟨n, o⟩ := own_of_set (fun _ => by simp) h1
      exact n (R.own j i l' l p o e1 h2 e2)
    · have z := (R.xo q hq).2.2.2.2 i l e1
      rw [e] at z
      exact z e2
  | _ => exact ⟨env, R, h⟩
theorem ds_ret {e : Expr} {m : DEx} {pos : Pos} (h : DE X B W e m) : DS X B W (.Return (some e) pos) (dRet m) := by
  refine ⟨psImp (ps_ret h.run) fun D σ H ⟨ρ, G, env, μ, R, k⟩ => ⟨ρ, G, env, μ, R, (KS.bind k).imp fun ρ1 G1 H1 μ1 d s p R1 k1 v hv => ?_⟩⟩
  obtain ⟨env', R2, h2⟩ := hv.unbor R1
  exact k1 σ env' ρ1 G1 H1 v (fun _ _ h => h) (.refl _) R2 h2
def dRetN : DSt := fun env μ => some (.val (.ret .non), env, μ)
theorem ds_retN {pos : Pos} : DS X B W (.Return none pos) dRetN := ⟨psImp ps_retN fun D σ H ⟨ρ, G, env, μ, R, k⟩ => k σ env ρ G H .non (fun _ _ h => h) (.refl _) R (.ofR rep_non)⟩
def dDrop (m : DEx) : DSt := fun env μ => bindS env (m env μ) fun _ μ => some (.val .nx, env, μ)
theorem ds_expr {e : Expr} {m : DEx} {pos : Pos} (h : DE X B W e m) (hs : swapsWith e none pos.line X.env = pure false := by rfl) : DS X B W (.Expr e pos) (dDrop m) :=
  ⟨psImp (ps_expr h.run hs) fun D σ H ⟨ρ, G, env, μ, R, k⟩ => ⟨ρ, G, env, μ, R, (KS.bind k).imp fun ρ1 G1 H1 μ1 d s p R1 k1 v hv => k1 σ ρ1 G1 H1 (fun _ _ h => h) (.refl _) R1⟩⟩
def dIfS (t : DEnv → Mu → Res Bool) (a b : DSt) : DSt := fun env μ => bindS env (t env μ) fun c μ => if c = true then a env μ else b env μ
theorem ds_if {c : Expr} {t : DEnv → Mu → Res Bool} {s1 s2 : List Stmt} {a b : DSt} {pos : Pos} (hc : DT X B W c t) (h1 : DSs X B W s1 a) (h2 : DSs X B W s2 b) : DS X B W (.If c s1 s2 pos) (dIfS t a b) := by
  refine ⟨psImp (ps_if hc.run h1.run h2.run) fun D σ H ⟨ρ, G, env, μ, R, k⟩ => ⟨ρ, G, env, μ, R, (KS.bind k).imp fun ρ1 G1 H1 μ1 c s p R1 k1 => ?_⟩⟩
  cases c with
  | true => exact ⟨ρ1, G1, env, μ1, R1, k1⟩
  | false => exact ⟨ρ1, G1, env, μ1, R1, k1⟩
/-! ### stores -/
def dAsg (m : DEx) (t : DTg) : DSt := fun env μ => bindS env (m env μ) fun d μ => if nobor d then (match t env (hold d) with
    | some env' => some (.val .nx, env', μ)
    | none => none) else none
theorem ds_asgG {te : TE} {g : TG} {m : DEx} {t : DTg} {is : List Nat} (h : PS X st (tAsg te g)) (i : ∀ σ H Q, rdE (tx X) B W m σ H Q → te σ H Q) (gd : GD X.K X.mg g t is) : DS X B W st (dAsg m t) := by
  refine ⟨psImp h fun D σ H ⟨ρ, G, env, μ, R, k⟩ => i σ H _ ⟨ρ, G, env, μ, R, (KS.bind k).imp fun ρ1 G1 H1 μ1 d s p R1 k1 v hv => ?_⟩⟩
  split at k1
  · rename_i hb
    split at k1
    · rename_i env' he
      obtain ⟨G2, s2, R2, h2⟩ := hv.hold R1
      exact gd.ok B ρ1 G2 H1 σ env μ1 v _ env' _ R2 (h2.rep (hold_nobor hb)) he fun σ' R3 _ _ => k1 σ' ρ1 G2 H1 s2 (.refl _) R3
    · exact k1.elim
  · exact k1.elim
theorem ds_set {i : Nat} {x : Str} {e : Expr} {m : DEx} {pos pos' : Pos} (hN : X.N.Nodup) (hi : X.N[i]? = some x) (hx : Loc X.env.scope x) (he : DE X B W e m) (hs : swapsWith e (some (.Name x pos')) pos.line X.env = pure false := by rfl)
    (hf : X.fn x = true ∨ X.env.scope.names.lookup x = some .local := by first | exact .inl rfl | exact .inr rfl | assumption) : DS X B W (.Assign [.Name x pos'] e pos) (dAsg m (tName i)) :=
  ds_asgG (ps_set hN hi hx he.run hs hf) (fun _ _ _ h => h) gd_name
/-! ### for -/
def forRun (tg : DTg) (body : DSt) : List D → DEnv → Mu → RS
  | [], env, μ => some (.val .nx, env, μ)
  | d :: ds, env, μ => (match tg env d with
    | none => none
    | some env1 => (match body env1 μ with
      | some (.val .nx, env2, μ2) => forRun tg body ds env2 μ2
      | some (.val .ct, env2, μ2) => forRun tg body ds env2 μ2
      | some (.val .brk, env2, μ2) => some (.val .nx, env2, μ2)
      | r => r))
def dFor (it : DEnv → Mu → Res (List D)) (tg : DTg) (body : DSt) : DSt := fun env μ => bindS env (it env μ) fun ds μ => forRun tg body ds env μ
theorem rd_for {J : It} {g : TG} {tg : DTg} {is : List Nat} {body : DSt} {De : Ends} {ρ1 : List Addr} {G1 H1 : Hp} {σ : L2.St} {env : DEnv} {μ1 : Mu} {ds : List D} (gd : GD T.K T.mg g tg is) (R1 : RD T B ρ1 G1 H1 σ env μ1) (wk : WalkD T J ρ1 G1 ds)
    (k : KS T B W De ρ1 G1 (forRun tg body ds env μ1)) : ∃ Wv : Nat → Nat → L2.St → Hp → Prop, (∃ m, Wv 0 m σ H1) ∧ ∀ i m σ H, Wv i m σ H →
      (J.stop i H ∧ De.nx σ H) ∨ (J.go i H ∧ ∃ N : L2.St → Hp → Prop, (∀ σ' H', N σ' H' → ∃ m', m' < m ∧ Wv (i + 1) m' σ' H') ∧ ∀ x H', J.yld i H x H' → g x σ H' fun σ2 H2 => rdS T B W body { De with nx := N, ct := N, bk := De.nx } σ2 H2) := by
  refine ⟨fun i m σ H => ∃ ρ' G' env' μ', m = ds.length - i ∧ i ≤ ds.length ∧ Same G1 G' ∧ Pre ρ1 ρ' ∧ RD T B ρ' G' H σ env' μ' ∧ KS T B W De ρ' G' (forRun tg body (ds.drop i) env' μ'), ⟨ds.length, ρ1, G1, env, μ1, by omega, Nat.zero_le _, fun _ _ h => h, .refl _, R1, k⟩, ?_⟩
  rintro i m σ' H' ⟨ρ', G', env', μ', rfl, hi, s, p, R, k⟩
  by_cases hlt : i < ds.length
  · have hd : ds[i]? = some ds[i] := by simp [hlt]
    obtain ⟨jg, jy⟩ := wk.go i _ hd ρ' G' H' s p R.gh
    refine .inr ⟨jg, fun σ2 H2 => ∃ ρ2 G2 env2 μ2, Same G1 G2 ∧ Pre ρ1 ρ2 ∧ RD T B ρ2 G2 H2 σ2 env2 μ2 ∧ KS T B W De ρ2 G2 (forRun tg body (ds.drop (i + 1)) env2 μ2),
      fun σ2 H2 ⟨ρ2, G2, env2, μ2, h1, h2, h3, h4⟩ => ⟨ds.length - (i + 1), by omega, ρ2, G2, env2, μ2, rfl, hlt, h1, h2, h3, h4⟩, fun x H'' hy => ?_⟩
    have item : ∃ G2, Same G' G2 ∧ RD T B ρ' G2 H'' σ' env' μ' ∧ Rep T ρ' G2 x ds[i] := by
      rcases jy x H'' hy with ⟨e, r⟩ | ⟨q, ws, l', hn, e, ex, ed, r, z⟩
      · exact ⟨G', fun _ _ h => h, by rw [e]; exact R, r⟩
      · have gn := (R.fresh_ hn).1
        exact ⟨_, same_upd gn, by rw [e]; exact R.alloc hn, by rw [ex, ed]; exact rep_tup (.inl upd_same) z (r.mono (same_upd gn) (.refl _))⟩
    obtain ⟨G2, s2, R2, rx⟩ := item
    rw [List.drop_eq_getElem_cons hlt] at k
    unfold forRun at k
    split at k
    · exact k.elim
    · rename_i env1 he1
      refine gd.ok B ρ' G2 H'' σ' env' μ' x _ env1 _ R2 rx he1 fun σ2 R3 _ _ => ⟨ρ', G2, env1, μ', R3, ?_⟩
      split at k
      · rename_i env2 μ2 hb
        rw [hb]
        exact fun σ3 ρ3 G3 H3 s3 p3 R4 => ⟨ρ3, G3, env2, μ2, (s.trans s2).trans s3, p.trans p3, R4, k.weak (s2.trans s3) p3⟩
      · rename_i env2 μ2 hb
        rw [hb]
        exact fun σ3 ρ3 G3 H3 s3 p3 R4 => ⟨ρ3, G3, env2, μ2, (s.trans s2).trans s3, p.trans p3, R4, k.weak (s2.trans s3) p3⟩
      · rename_i env2 μ2 hb
        rw [hb]
        exact fun σ3 ρ3 G3 H3 s3 p3 R4 => k σ3 ρ3 G3 H3 (s2.trans s3) p3 R4
      · rename_i n1 n2 n3
        cases hb : body env1 μ' with
        | none => rw [hb] at k; exact k.elim
        | some q =>
          obtain ⟨o, e2, μ2⟩ := q
          rw [hb] at k
          cases o with
          | exc x => exact fun σ3 ρ3 G3 H3 c d s3 p3 R4 => k σ3 ρ3 G3 H3 c d (s2.trans s3) p3 R4
          | val f =>
            cases f with
            | nx => exact absurd hb (n1 _ _)
            | ct => exact absurd hb (n2 _ _)
            | brk => exact absurd hb (n3 _ _)
            | ret d => exact fun σ3 e3 ρ3 G3 H3 v s3 p3 R4 => k σ3 e3 ρ3 G3 H3 v (s2.trans s3) p3 R4
  · have e : i = ds.length := by omega
    subst e
    rw [List.drop_length] at k
    exact .inl ⟨wk.stop ρ' G' H' s p R.gh, k σ' ρ' G' H' (fun _ _ h => h) (.refl _) R⟩
theorem ds_for {tg iter : Expr} {body : List Stmt} {it : DEnv → Mu → Res (List D)} {g : TG} {t : DTg} {is : List Nat} {b : DSt} {pos : Pos} (hp : PassesOwn (model X.prog X.w) X.A X.env X.xe) (hc : X.calm = true) (hi : DI X B W tg iter it) (hg : PG X tg g) (gd : GD X.K X.mg g t is) (hb : DSs X B W body b)
    (hs : ∀ x, foldedSetIterable iter X.env x = pure x := by intro _; rfl) : DS X B W (.For tg iter body [] pos) (dFor it t b) :=
  ⟨psImp (ps_for hp hc hi.run hg hb.run hs) fun D σ H ⟨ρ, G, env, μ, R, k⟩ => ⟨ρ, G, env, μ, R, (KS.bind k).imp fun ρ1 G1 H1 μ1 ds s p R1 k1 J wk => rd_for gd R1 wk k1⟩⟩
end
end Dv

/-! DvI: what a def means; a def by its body; calls. -/
namespace Dv
open PySem PySem.Spec PyProof.Rows L2
abbrev Fn := List D → Mu → Res D
/-- a call's value: a list of nobody's, or what is frozen -/
def RepO (T : Tx) (ρ : List Addr) (G H H0 : Hp) (v : V) : D → Prop
  | .new l => ∃ (p : Addr) (vs : List V), v = .ref p ∧ H p = some (.lst vs) ∧ Reps T ρ G vs l ∧ szl l.length ∧ G p = none ∧ p ∉ ρ ∧ H0 p = none
  | d => Rep T ρ G v d
def KC (T : Tx) (ρ : List Addr) (G H : Hp) (Q : VK) (E : XK) : Res D → Prop
  | some (.val d, μ') => ∀ v ρ' G' H', Ext ρ G H ρ' G' H' → Same G' H' → StR T ρ' G' H' μ' → RepO T ρ' G' H' H v d → Q v H'
  | some (.exc x, μ') => ∀ cls dd ρ' G' H', Ext ρ G H ρ' G' H' → Same G' H' → StR T ρ' G' H' μ' → ExR T ρ' G' H' cls dd x → E cls dd H'
  | none => False
def spD (T : Tx) (n : Nat) (m : Fn) : Sp := fun vs H Q E => vs.length = n ∧ ∃ ρ G ds μ, Same G H ∧ StR T ρ G H μ ∧ Reps T ρ G vs ds ∧ KC T ρ G H Q E (m ds μ)
/-- a def's meaning by its body's -/
def endD : RS → Res D
  | some (.val (.ret d), _, μ) => some (.val d, μ)
  | some (.val .nx, _, μ) => some (.val .non, μ)
  | some (.exc x, _, μ) => some (.exc x, μ)
  | _ => none
def envD (n : Nat) (ds : List D) : DEnv := ds.map SV.v ++ List.replicate (n - ds.length) .no
def defD (n : Nat) (body : DSt) : Fn := fun ds μ => endD (body (envD n ds) μ)
section
variable {T : Tx} {ρ : List Addr} {G H : Hp} {μ : Mu}
theorem start_rd {N : List Str} {vs : List V} {ds : List D} (gh : Same G H) (st : StR T ρ G H μ) (r : Reps T ρ G vs ds) : RD T ⟨H, G, ρ, []⟩ ρ G H (L2.start N vs) (envD N.length ds) μ := by
  have hl := r.length
  have noown : ∀ (i : Nat) (l : List D), (envD N.length ds)[i]? ≠ some (.own l) := by
    intro i l h
    unfold envD at h
    by_cases hi : i < ds.length
    · rw [List.getElem?_append_left (by simpa using hi), List.getElem?_map] at h
      cases e : ds[i]? with
      | none => rw [e] at h; cases h
      | some d => rw [e] at h; cases h
    · rw [List.getElem?_append_right (by simpa using hi), List.getElem?_replicate] at h
      split at h <;> cases h
  refine ⟨gh, .refl _ _ _, by simp [envD, L2.start, hl], fun i s hs => ?_, fun i j l l' p h1 => absurd h1 (noown i l), st, fun q hq => absurd hq List.not_mem_nil, List.nodup_nil⟩
  unfold envD at hs
  by_cases hi : i < ds.length
  · rw [List.getElem?_append_left (by simpa using hi), List.getElem?_map] at hs
    cases e : ds[i]? with
    | none => rw [e] at hs; cases hs
    | some d =>
      rw [e] at hs
      cases hs
      obtain ⟨v, e1, e2⟩ := r.get e
      refine ⟨v, ?_, e2⟩
      unfold L2.start
      rw [List.getElem?_append_left (by rw [List.length_map]; omega), List.getElem?_map, e1]; rfl
  · rw [List.getElem?_append_right (by simpa using hi), List.getElem?_replicate] at hs
    split at hs
    · cases hs; trivial
    · cases hs
theorem repO_of {B : Bs} {σ : L2.St} {env : DEnv} {v : V} {d : D} (h : RepX T B ρ G H σ env v d) (n : nobor d = true) : RepO T ρ G H B.H0 v d := by
  cases d with
  | new l =>
    obtain ⟨p, vs, e1, e2, e3, e4, e5, e6, e7, _⟩ := h
    exact ⟨p, vs, e1, e2, e3, e4, e5, e6, e7⟩
  | bor l => cases n
  | _ => exact h
end
section
variable {P : Program} {w : World} {K : PySem.W.Frag} {mg : Str → Option Value} {base : Heap} {x qual : Str} {params : Arguments} {body : List Stmt} {scope : Scope} {dvs : List V} {kws : List (Str × V)} {f : Addr} {fd : FuncData}
/-- nothing borrowed is handed back -/
def cleanD (m : Fn) : Fn := fun ds μ => match m ds μ with
  | some (.val d, μ') => if nobor d then some (.val d, μ') else none
  | r => r
theorem def_ok {N ps : List Str} {k : Nat} {m : DSt} (F : FunD K x qual params body scope dvs kws f fd) (S : FnScope N ps scope)
    (hbody : ∀ (cdv : Value) (A : Around) (outer : List Env) (s : Shared) (H : Hp) (E : XK) (B : Bs), Room k (A.deeper (envOfC qual scope s.heap.objs.size f cdv)) → DSs (cxOf (L2.CX P w) P w K mg base N qual scope f cdv A outer s H E) B (fun cls d _ H => E cls d H) body m) :
    FnOk P w K mg base (L2.CX P w) (k + 1) f fd ps (spD ⟨K, mg⟩ ps.length (cleanD (defD N.length m))) := by
  refine F.ok S (fun vs H Q E h => h.1) fun cdv A outer s H vs Q E hr h => ?_
  obtain ⟨hl, ρ, G, ds, μ, gh, st, rs, k⟩ := h
  refine ⟨_, (hbody cdv A outer s H E ⟨H, G, ρ, []⟩ hr).run, ρ, G, envD N.length ds, μ, start_rd gh st rs, ?_⟩
  unfold cleanD defD at k
  cases e : m (envD N.length ds) μ with
  | none => rw [e] at k; exact k.elim
  | some q =>
    obtain ⟨o, env', μ'⟩ := q
    rw [e] at k
    cases o with
    | exc x => exact fun σ' ρ' G' H' cls dd s p R er => k cls dd ρ' G' H' R.ext R.gh R.st er
    | val fl =>
      cases fl with
      | nx => exact fun σ' ρ' G' H' s p R => k .non ρ' G' H' R.ext R.gh R.st (show Rep _ _ _ _ _ from rep_non)
      | ret d =>
        have k : KC ⟨K, mg⟩ ρ G H Q E (if nobor d then some (.val d, μ') else none) := k
        split at k
        · rename_i hb
          exact fun σ' env2 ρ' G' H' v s p R hv => k v ρ' G' H' R.ext R.gh R.st (repO_of hv hb)
        · exact k.elim
      | brk => exact k.elim
      | ct => exact k.elim
end
/-! ### calls -/
section
variable {X : Cx} {B : Bs} {W : WX}
/-- behind a call all is as it was but the store -/
theorem RD.after {T : Tx} {ρ ρ' : List Addr} {G G' H H' : Hp} {σ : L2.St} {env : DEnv} {μ μ' : Mu} (R : RD T B ρ G H σ env μ) (e : Ext ρ G H ρ' G' H') (gh : Same G' H') (st : StR T ρ' G' H' μ') : RD T B ρ' G' H' σ env μ' := by
  have keep : ∀ {p : Addr} {o : HO}, H p = some o → G p = none → p ∉ ρ → H' p = some o ∧ G' p = none ∧ p ∉ ρ' := fun {p o} h g n => by
    refine ⟨e.old h n, ?_, fun m => ?_⟩
    · cases q : G' p with
      | none => rfl
      | some o' => have := e.fg p o' q g; rw [h] at this; cases this
    · have := e.fr p m n; rw [h] at this; cases this
  refine ⟨gh, R.ext.trans e, R.len, fun i s hs => ?_, R.own, st, fun q hq => ?_, R.xn⟩
  · have h := R.slot i s hs
    cases s with
    | no => trivial
    | v d =>
      obtain ⟨v, e1, e2⟩ := h
      exact ⟨v, e1, e2.mono e.gg e.pre⟩
    | own l =>
      obtain ⟨p, vs, e1, e2, e3, e4, e5, e6, e7⟩ := h
      obtain ⟨k1, k2, k3⟩ := keep e2 e5 e6
      exact ⟨p, vs, e1, k1, e3.mono e.gg e.pre, e4, k2, k3, e7⟩
  · obtain ⟨e1, e2, e3, e4⟩ := R.xo q hq
    obtain ⟨k1, k2, k3⟩ := keep e1 e2 e3
    exact ⟨k1, k2, k3, e4⟩
theorem repX_after {T : Tx} {ρ ρ' : List Addr} {G G' H H' : Hp} {σ : L2.St} {env : DEnv} {μ : Mu} (R : RD T B ρ G H σ env μ) {v : V} {d : D} (h : RepO T ρ' G' H' H v d) : RepX T B ρ' G' H' σ env v d := by
  cases d with
  | new l =>
    obtain ⟨p, vs, e1, e2, e3, e4, eg, e5, e6⟩ := h
    refine ⟨p, vs, e1, e2, e3, e4, eg, e5, R.ext.none e6, fun i l' h1 h2 => ?_, fun q hq e => ?_⟩
    · obtain ⟨p', us, q1, q2, _⟩ := R.slot i _ h1
      rw [h2] at q1; cases q1
      rw [e6] at q2; cases q2
    · have z := (R.xo q hq).1
      rw [e, e6] at z; cases z
  | bor l => exact (show False from by unfold RepO Rep at h; exact h).elim
  | _ => exact h
/-- a call with values -/
theorem kc_of {T : Tx} {m : Fn} {ρ : List Addr} {G H : Hp} {σ : L2.St} {env : DEnv} {μ : Mu} {Q : VK} {ds : List D} (R : RD T B ρ G H σ env μ) (k : KE T B σ env W (PX T B σ env Q) ρ G (m ds μ)) : KC T ρ G H Q (fun cls d H => W cls d σ H) (m ds μ) := by
  cases e : m ds μ with
  | none => rw [e] at k; exact k.elim
  | some q =>
    obtain ⟨o, μ'⟩ := q
    rw [e] at k
    cases o with
    | val d => exact fun v ρ' G' H' ex gh st ro => k ρ' G' H' ex.gg ex.pre (R.after ex gh st) v (repX_after R ro)
    | exc x => exact fun cls dd ρ' G' H' ex gh st er => k ρ' G' H' cls dd ex.gg ex.pre (R.after ex gh st) er
def fCall (n : Nat) (m : Fn) : FA := fun ds μ => if ds.length = n ∧ ds.all nobor = true then m ds μ else none
theorem sp_call {T : Tx} {n : Nat} {m : Fn} {ρ : List Addr} {G H : Hp} {σ : L2.St} {env : DEnv} {μ : Mu} {Q : VK} {ds : List D} {vs : List V} (R : RD T B ρ G H σ env μ) (hv : HReps T ρ G σ env vs ds) (k : KE T B σ env W (PX T B σ env Q) ρ G (fCall n m ds μ)) :
    spD T n m vs H Q (fun cls d H => W cls d σ H) := by
  unfold fCall at k
  split at k
  · rename_i h
    have r := hv.reps h.2
    exact ⟨by rw [r.length, h.1], ρ, G, ds, μ, R.gh, R.st, r, kc_of R k⟩
  · exact k.elim
theorem de_call {k n : Nat} {f : Addr} {fd : FuncData} {ps : List Str} {m : Fn} {x : Str} {p pos : Pos} {e : Expr} {es : List Expr} {na : DEnv → Mu → Res (List D)} {ds : List Value} {dvs : List V} (F : FnOk X.prog X.w X.K X.mg X.base (L2.CX X.prog X.w) k f fd ps (spD (tx X) n m)) (hr : Room k X.A) (tk : Takes X W) (hg : Gl X x) (hm : X.mg x = some (.ref f)) (hk : PySem.W.keepIn X.K (.ref f) = true)
    (hb : Binds X.K fd ps []) (ha : DA X B W (e :: es) na) (hdb : (x == ("__debug__" : Str)) = false := by decide) (he : starEach (e :: es) X.env = (false, eval e X.env) :: starEach es X.env := by rfl) (hpl : (backTo pos (starEach es X.env)).any (·.1) = false := by rfl) :
    DE X B W (.Call (.Name x p) (e :: es) [] pos) (dCall (fCall n m) na) := by
  refine ⟨peImp (pe_callSD (E := fun σ cls d H => W cls d σ H) F hr hg hm hk hb .nil (fun σ => passAt tk σ) ha.run hdb he hpl) fun σ H Q ⟨ρ, G, env, μ, R, k⟩ => ?_⟩
  refine ⟨ρ, G, env, μ, R, (KE.bind (f := fCall n m) k).imp fun ρ1 G1 H1 μ1 ds s p R1 k1 vs hvs => ?_⟩
  show spD (tx X) n m (vs ++ []) H1 Q _
  rw [List.append_nil]
  exact sp_call R1 hvs k1
/-! ### keywords -/
structure DK (X : Cx) (B : Bs) (W : WX) (kws : List Keyword) (m : DEnv → Mu → Res (List D)) : Prop where
  run : PK X kws (rdA (tx X) B W m)
theorem pkImp {kws : List Keyword} {t t' : TA} (h : PK X kws t) (i : ∀ σ H Q, t' σ H Q → t σ H Q) : PK X kws t' := ⟨fun pos pins s σ H Q I q => h.run pos pins s σ H Q I (i σ H Q q)⟩
theorem dk_nil : DK X B W [] dNil := ⟨pkImp pk_nil fun σ H Q ⟨ρ, G, env, μ, R, k⟩ => k ρ G H (fun _ _ h => h) (.refl _) R [] .nil⟩
theorem dk_cons {nm : Option Str} {e : Expr} {kpos : Pos} {kws : List Keyword} {m : DEx} {n : DEnv → Mu → Res (List D)} (h : DE X B W e m) (g : DK X B W kws n) : DK X B W (⟨nm, e, kpos⟩ :: kws) (dCons m n) := by
  refine ⟨pkImp (pk_cons h.run g.run) fun σ H Q ⟨ρ, G, env, μ, R, k⟩ => ?_⟩
  refine rd_then (f := fun d μ => bindR (n env μ) fun ds μ => ret (hold d :: ds) μ) R k fun ρ1 G1 H1 μ1 x d s p R1 hx k1 => ?_
  refine ⟨ρ1, G1, env, μ1, R1, (KE.bind (f := fun ds μ => ret (hold d :: ds) μ) k1).imp fun ρ2 G2 H2 μ2 ds s2 p2 R2 k2 vs hvs => ?_⟩
  exact k2 ρ2 G2 H2 (fun _ _ h => h) (.refl _) R2 _ (.cons (hx.mono s2 p2) hvs)
theorem HReps.append {T : Tx} {ρ : List Addr} {G : Hp} {σ : L2.St} {env : DEnv} {vs us : List V} {ds es : List D} (h : HReps T ρ G σ env vs ds) (g : HReps T ρ G σ env us es) : HReps T ρ G σ env (vs ++ us) (ds ++ es) := by
  induction h with
  | nil => exact g
  | cons a _ ih => exact .cons a ih
def dCallK (f : FA) (n l : Nat) (na nk : DEnv → Mu → Res (List D)) : DEx := fun env μ => bindR (na env μ) fun ds μ => bindR (nk env μ) fun es μ => if ds.length = n ∧ es.length = l then f (ds ++ es) μ else none
/-- f(a, .., k = b, ..), the keywords in the parameters' order behind the others -/
theorem de_callK {k n0 n : Nat} {f : Addr} {fd : FuncData} {ps ks : List Str} {m : Fn} {x : Str} {p pos : Pos} {e : Expr} {es : List Expr} {kws : List Keyword} {na nk : DEnv → Mu → Res (List D)} (F : FnOk X.prog X.w X.K X.mg X.base (L2.CX X.prog X.w) k f fd ps (spD (tx X) n m)) (hr : Room k X.A) (tk : Takes X W) (hg : Gl X x) (hm : X.mg x = some (.ref f)) (hk : PySem.W.keepIn X.K (.ref f) = true)
    (hb : KBn X.K fd ps n0 ks (fun us ws => us ++ ws) (fun us ws => us ++ ws)) (ha : DA X B W (e :: es) na) (hkw : DK X B W kws nk) (hall : (backToKw pos (keywordEach kws X.env)).all (·.1.isSome) = true := by rfl) (hks : (backToKw pos (keywordEach kws X.env)).filterMap (·.1) = ks := by rfl)
    (hdb : (x == ("__debug__" : Str)) = false := by decide) (he : starEach (e :: es) X.env = (false, eval e X.env) :: starEach es X.env := by rfl)
    (hpl : ((backTo pos (starEach (e :: es) X.env)).any (·.1) || (backToKw pos (keywordEach kws X.env)).any (·.1.isNone)) = false := by rfl) :
    DE X B W (.Call (.Name x p) (e :: es) kws pos) (dCallK (fCall n m) n0 ks.length na nk) := by
  refine ⟨⟨fun pins s σ H Q I ⟨ρ, G, env, μ, R, k⟩ => ?_⟩⟩
  refine wpAny_Call_Name_kw (ld_glob I hg hm ?_ hdb)
  have h1 := (KE.bind (f := fun ds μ => bindR (nk env μ) fun es μ => if ds.length = n0 ∧ es.length = ks.length then fCall n m (ds ++ es) μ else none) k)
  refine PySem.W.callWith_KW (h₀ := X.base) I.ok.mod.kin hk hall (thn (ha.run.run pos pins s σ H (fun vs H1 => rdA (tx X) B W nk σ H1 fun zs H2 => vs.length = n0 ∧ zs.length = ks.length ∧ spD (tx X) n m (vs ++ zs) H2 Q (fun cls d H => W cls d σ H)) I ⟨ρ, G, env, μ, R, h1.imp fun ρ1 G1 H1 μ1 ds s p R1 k1 vs hvs => ?_⟩) fun us s1 ⟨vs, H1, I1, r, q⟩ => ?_) hpl he
  · refine ⟨ρ1, G1, env, μ1, R1, (KE.bind (f := fun es μ => if ds.length = n0 ∧ es.length = ks.length then fCall n m (ds ++ es) μ else none) k1).imp fun ρ2 G2 H2 μ2 es s2 p2 R2 k2 zs hzs => ?_⟩
    split at k2
    · rename_i hl
      exact ⟨by rw [hvs.length, hl.1], by rw [hzs.length, hl.2], sp_call R2 ((hvs.mono s2 p2).append hzs) k2⟩
    · exact k2.elim
  · refine thn (hkw.run.run pos pins s1 σ H1 _ I1 q) fun ws s2 ⟨zs, H2, I2, rz, l1, l2, q2⟩ => ⟨I2.kIn, ?_⟩
    rw [hks]
    have r2 : Vals (vs ++ zs) (us ++ ws) := hb.rel r rz
    refine wpAny_call (codeAny_mono (F.run X.A X.stack s2 H2 ⟨us, ks.zip ws⟩ (us ++ ws) (vs ++ zs) Q (fun cls d H => W cls d σ H) hr I2.env0 (hb.to s2 us ws I2.kIn (r.length.symm.trans l1) (rz.length.symm.trans l2)) r2 q2) fun rr s' hq => ?_)
    cases rr with
    | error e => exact passAt tk σ pins H2 s2 e s' I2 hq
    | ok fl =>
      cases fl with
      | ret u => exact I2.after hq
      | next => exact False.elim hq
      | brk => exact False.elim hq
      | cont => exact False.elim hq
end
end Dv

/-! DvJ: stores side by side, comprehensions stored, the drawer, calls of oneself. -/
namespace Dv
open PySem PySem.Spec PyProof.Rows L2
section
variable {X : Cx} {B : Bs} {W : WX}
/-! ### a, b = x, y -/
def dPar2 (i j : Nat) (n : DEnv → Mu → Res (List D)) : DSt := fun env μ => bindS env (n env μ) fun ds μ => match ds with
  | [d, e] => if nobor d = true ∧ nobor e = true then some (.val .nx, (env.set i (.v d)).set j (.v e), μ) else none
  | _ => none
def dPar3 (i j l : Nat) (n : DEnv → Mu → Res (List D)) : DSt := fun env μ => bindS env (n env μ) fun ds μ => match ds with
  | [d, e, f] => if nobor d = true ∧ nobor e = true ∧ nobor f = true then some (.val .nx, ((env.set i (.v d)).set j (.v e)).set l (.v f), μ) else none
  | _ => none
theorem hreps3 {T : Tx} {ρ : List Addr} {G : Hp} {σ : L2.St} {env : DEnv} {vs : List V} {d e f : D} (h : HReps T ρ G σ env vs [d, e, f]) : ∃ v u w, vs = [v, u, w] ∧ HeldR T ρ G σ env v d ∧ HeldR T ρ G σ env u e ∧ HeldR T ρ G σ env w f := by
  cases h with
  | cons a b =>
    obtain ⟨u, w, rfl, q, q'⟩ := hreps2 b
    exact ⟨_, _, _, rfl, a, q, q'⟩
theorem ds_par2 {pos : Pos} {i j : Nat} {x y : Str} {a b : Expr} {n : DEnv → Mu → Res (List D)} {px py pt : Pos} {kt k2 : Nat} {pt2 : Pos} (hc : X.calm = true) (hN : X.N.Nodup) (hi : X.N[i]? = some x) (hj : X.N[j]? = some y) (hij : i ≠ j)
    (hx : List.lookup x X.env.scope.names = some NameKind.local) (hy : List.lookup y X.env.scope.names = some NameKind.local) (ha : DA X B W [a, b] n)
    (hw : swappedStores [Expr.Tuple [Expr.Name x px, Expr.Name y py] kt pt] (Expr.Tuple [a, b] k2 pt2) X.env = pure (some [x, y]))
    (hs : swapsWithSole [Expr.Tuple [Expr.Name x px, Expr.Name y py] kt pt] (Expr.Tuple [a, b] k2 pt2) pos.line X.env = pure false := by rfl) :
    DS X B W (Stmt.Assign [Expr.Tuple [Expr.Name x px, Expr.Name y py] kt pt] (Expr.Tuple [a, b] k2 pt2) pos) (dPar2 i j n) := by
  refine ⟨psImp (ps_par hc hN hi hj hij hx hy ha.run hw hs) fun D σ H ⟨ρ, G, env, μ, R, k⟩ => ⟨ρ, G, env, μ, R, (KS.bind k).imp fun ρ1 G1 H1 μ1 ds s p R1 k1 vs hvs => ?_⟩⟩
  split at k1
  · split at k1
    · rename_i h
      obtain ⟨v, u, rfl, hv, hu⟩ := hreps2 hvs
      exact ⟨v, u, rfl, k1 _ ρ1 G1 H1 (fun _ _ h => h) (.refl _) ((R1.set (hv.rep h.1)).set (hu.rep h.2))⟩
    · exact k1.elim
  · exact k1.elim
theorem ds_par3 {pos : Pos} {i j l : Nat} {x y z : Str} {a b c : Expr} {n : DEnv → Mu → Res (List D)} {px py pz pt : Pos} {kt k2 : Nat} {pt2 : Pos} (hc : X.calm = true) (hN : X.N.Nodup) (hi : X.N[i]? = some x) (hj : X.N[j]? = some y) (hl : X.N[l]? = some z) (hij : i ≠ j) (hil : i ≠ l) (hjl : j ≠ l)
    (hx : List.lookup x X.env.scope.names = some NameKind.local) (hy : List.lookup y X.env.scope.names = some NameKind.local) (hz : List.lookup z X.env.scope.names = some NameKind.local) (ha : DA X B W [a, b, c] n)
    (hw : swappedStores [Expr.Tuple [Expr.Name x px, Expr.Name y py, Expr.Name z pz] kt pt] (Expr.Tuple [a, b, c] k2 pt2) X.env = pure (some [x, y, z]))
    (hs : swapsWithSole [Expr.Tuple [Expr.Name x px, Expr.Name y py, Expr.Name z pz] kt pt] (Expr.Tuple [a, b, c] k2 pt2) pos.line X.env = pure false := by rfl) :
    DS X B W (Stmt.Assign [Expr.Tuple [Expr.Name x px, Expr.Name y py, Expr.Name z pz] kt pt] (Expr.Tuple [a, b, c] k2 pt2) pos) (dPar3 i j l n) := by
  refine ⟨psImp (ps_par3 hc hN hi hj hl hij hil hjl hx hy hz ha.run hw hs) fun D σ H ⟨ρ, G, env, μ, R, k⟩ => ⟨ρ, G, env, μ, R, (KS.bind k).imp fun ρ1 G1 H1 μ1 ds s p R1 k1 vs hvs => ?_⟩⟩
  split at k1
  · split at k1
    · rename_i h
      obtain ⟨v, u, w, rfl, hv, hu, hw⟩ := hreps3 hvs
      exact ⟨v, u, w, rfl, k1 _ ρ1 G1 H1 (fun _ _ h => h) (.refl _) (((R1.set (hv.rep h.1)).set (hu.rep h.2.1)).set (hw.rep h.2.2))⟩
    · exact k1.elim
  · exact k1.elim
/-! ### y = [.. for ..] on one line -/
theorem ds_setLc {i : Nat} {y : Str} {py : Pos} {elt tg iter : Expr} {ifs : List Expr} {scope : Scope} {own : List (Str × Nat)} {pos spos : Pos} {it : DEnv → Mu → Res (List D)} {g : TG} {t : DTg} {is : List Nat} {tt : DEnv → Mu → Res Bool} {el : DEx}
    (hc : X.calm = true) (hN : X.N.Nodup) (hy : X.N[i]? = some y) (hyl : List.lookup y X.env.scope.names = some NameKind.local) (hsw : swapsWith (elt.ListComp [⟨tg, iter, ifs, 0⟩] scope pos) (some (Expr.Name y py)) spos.line X.env = pure true)
    (hi : DI X B W tg iter it) (ok : BlkOk X.N X.env.scope scope own) (gd : GD X.K X.mg g t is) (his : ∀ i ∈ is, i ∈ own.map (·.2))
    (hg : ∀ (s : Shared) (H : Hp) (C : Addr) (cl : List (Str × Addr)) (fp : List Addr), PG (X.blk s H scope (compEnvC scope cl C X.env) fp) tg g)
    (ht : ∀ (s : Shared) (H : Hp) (C : Addr) (cl : List (Str × Addr)) (fp : List Addr) (B : Bs), DTs (X.blk s H scope (compEnvC scope cl C X.env) fp) B W0 ifs tt)
    (he : ∀ (s : Shared) (H : Hp) (C : Addr) (cl : List (Str × Addr)) (fp : List Addr) (B : Bs), DE (X.blk s H scope (compEnvC scope cl C X.env) fp) B W0 elt el) (hs : ∀ x, foldedSetIterable iter X.env x = pure x := by intro _; rfl) :
    DS X B W (.Assign [.Name y py] (.ListComp elt [⟨tg, iter, ifs, 0⟩] scope pos) spos) (dAsg (dLc it (own.map (·.2)) t tt el) (tName i)) :=
  ds_asgG (ps_setLc (te := exE (tx X) el) (tt := exT (tx X) tt) hc hN hy hyl hsw hi.run ok hg (fun s H C cl fp => pt_ex (ht s H C cl fp)) (fun s H C cl fp => pe_ex (he s H C cl fp)) hs) (fun _ _ _ h => rd_tLc gd his h) gd_name
/-! ### the drawer -/
theorem reps_ints {T : Tx} {ρ : List Addr} {G : Hp} : ∀ ns : List Int, Reps T ρ G (ns.map V.int) (ns.map D.int)
  | [] => .nil
  | n :: ns => .cons rep_int (reps_ints ns)
def srcGet (s : Src) (i : Int) : Option D :=
  if i = 0 then (if szl s.cells.length then some (.lst (s.cells.map D.int)) else none)
  else if i = 1 then some (.int s.at_) else if i = 2 then some (.int s.big) else if i = 3 then some (.int s.seed) else if i = 4 then some (.int s.cnt) else none
def srcSet (s : Src) (i v : Int) : Option Src :=
  if i = 1 then some { s with at_ := v } else if i = 2 then some { s with big := v } else if i = 3 then some { s with seed := v } else if i = 4 then some { s with cnt := v } else none
def fIxS : F2
  | .obj k, .int i, μ => (match μ[k]? with
    | some (.src s) => (match srcGet s i with
      | some d => ret d μ
      | none => none)
    | _ => none)
  | a, b, μ => fIx a b μ
theorem obj_inv {T : Tx} {ρ : List Addr} {G : Hp} {σ : L2.St} {env : DEnv} {x : V} {k : Nat} (h : HeldR T ρ G σ env x (.obj k)) : ∃ a, x = .ref a ∧ ρ[k]? = some a := by
  have h : Rep T ρ G x (.obj k) := h
  unfold Rep at h; exact h
theorem opd_ixS : OpD (tx X) (rIx X.K) fIxS := by
  intro B W σ env ρ G H μ x y d d' Q R hx hy k
  unfold fIxS at k
  split at k
  · rename_i kk i
    split at k
    · rename_i s hs
      split at k
      · rename_i d hd
        obtain ⟨a, rfl, ha⟩ := obj_inv hx
        obtain ⟨a', ea, r⟩ := R.st.at_ kk _ hs
        rw [ha] at ea; cases ea
        obtain ⟨l, e1, e2⟩ := r
        have e3 := int_inv hy
        unfold srcGet at hd
        split at hd
        · rename_i h0
          split at hd
          · rename_i hz
            cases hd
            exact .inl ⟨a, _, i, .ref l, rfl, e3, .of e1, by subst h0; rfl, k.here R (.ofR (rep_lst e2 (by simpa using hz) (reps_ints _)))⟩
          · cases hd
        · split at hd
          · rename_i h0; cases hd
            exact .inl ⟨a, _, i, .int s.at_, rfl, e3, .of e1, by subst h0; rfl, k.here R (.ofR rep_int)⟩
          · split at hd
            · rename_i h0; cases hd
              exact .inl ⟨a, _, i, .int s.big, rfl, e3, .of e1, by subst h0; rfl, k.here R (.ofR rep_int)⟩
            · split at hd
              · rename_i h0; cases hd
                exact .inl ⟨a, _, i, .int s.seed, rfl, e3, .of e1, by subst h0; rfl, k.here R (.ofR rep_int)⟩
              · split at hd
                · rename_i h0; cases hd
                  exact .inl ⟨a, _, i, .int s.cnt, rfl, e3, .of e1, by subst h0; rfl, k.here R (.ofR rep_int)⟩
                · cases hd
      · exact k.elim
    · exact k.elim
  · exact opd_ix B W σ env ρ G H μ x y _ _ Q R hx hy k
theorem RD.setSrc {T : Tx} {ρ : List Addr} {G H : Hp} {σ : L2.St} {env : DEnv} {μ : Mu} {k : Nat} {a l : Addr} {s s' : Src} (R : RD T B ρ G H σ env μ) (ha : ρ[k]? = some a) (hs : μ[k]? = some (.src s)) (e1 : H a = some (.lst (srcV l s))) (e2 : G l = some (.lst (s.cells.map V.int))) (hc : s'.cells = s.cells) :
    RD T B ρ G (upd H a (.lst (srcV l s'))) σ env (μ.set k (.src s')) := by
  have am : a ∈ ρ := List.mem_of_getElem? ha
  have ga := R.st.off a am
  have hk : k < μ.length := (List.getElem?_eq_some_iff.mp hs).1
  refine ⟨fun b u e => ?_, ⟨R.ext.gg, R.ext.pre, fun b u e => ?_, R.ext.fg, R.ext.fr⟩, R.len, fun i t ht => ?_, R.own, ⟨by rw [List.length_set]; exact R.st.len, R.st.nd, R.st.off, fun j m hm => ?_⟩, fun q hq => ?_, R.xn⟩
  · by_cases q : b = a
    · subst q; rw [ga] at e; cases e
    · rw [upd_ne q]; exact R.gh b u e
  · by_cases q : b = a
    · subst q
      refine ⟨_, upd_same, fun n => ?_⟩
      have := R.ext.fr b am n
      rw [this] at e; cases e
    · rw [upd_ne q]; exact R.ext.keep b u e
  · have h := R.slot i t ht
    cases t with
    | no => trivial
    | v d => exact h
    | own l' =>
      obtain ⟨p, vs, q1, q2, q3, q4, q5, q6, q7⟩ := h
      have z : p ≠ a := fun z => q6 (z ▸ am)
      exact ⟨p, vs, q1, by rw [upd_ne z]; exact q2, q3, q4, q5, q6, q7⟩
  · by_cases q : k = j
    · subst q
      rw [List.getElem?_set_self hk] at hm
      cases hm
      exact ⟨a, ha, l, upd_same, by rw [hc]; exact e2⟩
    · rw [List.getElem?_set_ne q] at hm
      obtain ⟨a', ea, r⟩ := R.st.at_ j m hm
      refine ⟨a', ea, ?_⟩
      have z : a' ≠ a := fun z => by
        subst z
        have hj : j < ρ.length := (List.getElem?_eq_some_iff.mp ea).1
        have hkr : k < ρ.length := (List.getElem?_eq_some_iff.mp ha).1
        have := (List.getElem?_inj hkr R.st.nd).mp (ha.trans ea.symm)
        exact q this
      exact r.to (fun _ _ e => e) fun o e1 => by rw [upd_ne z]; exact e1
  · obtain ⟨q1, q2, q3, q4⟩ := R.xo q hq
    have z : q.1 ≠ a := fun z => q3 (z ▸ am)
    exact ⟨by rw [upd_ne z]; exact q1, q2, q3, q4⟩
def fSetS (env : DEnv) : D → D → D → Mu → RS
  | .int v, .obj k, .int i, μ => (match μ[k]? with
    | some (.src s) => (match srcSet s i v with
      | some s' => some (.val .nx, env, μ.set k (.src s'))
      | none => none)
    | _ => none)
  | _, _, _, _ => none
def dSetS (me mo mi : DEx) : DSt := fun env μ => bindS env (me env μ) fun d μ => bindS env (mo env μ) fun o μ => bindS env (mi env μ) fun i μ => fSetS env (hold d) (hold o) (hold i) μ
/-- one evaluation, then a statement's rest -/
theorem rd_thenS {T : Tx} {De : Ends} {σ : L2.St} {env : DEnv} {ρ : List Addr} {G H : Hp} {μ : Mu} {m : DEx} {f : D → Mu → RS} {Q : VK}
    (R : RD T B ρ G H σ env μ) (k : KS T B W De ρ G (bindS env (m env μ) f))
    (h : ∀ ρ1 G1 H1 μ1 x d, Same G G1 → Pre ρ ρ1 → RD T B ρ1 G1 H1 σ env μ1 → HeldR T ρ1 G1 σ env x (hold d) → KS T B W De ρ1 G1 (f d μ1) → Q x H1) : rdE T B W m σ H Q := by
  refine ⟨ρ, G, env, μ, R, (KS.bind k).imp fun ρ1 G1 H1 μ1 d s p R1 k1 x hx => ?_⟩
  obtain ⟨G2, s2, R2, h2⟩ := hx.hold R1
  exact h ρ1 G2 H1 μ1 x d (s.trans s2) p R2 h2 (k1.weak s2 (.refl _))
theorem srcV_set {l : Addr} {s s' : Src} {i v : Int} (h : srcSet s i v = some s') : s'.cells = s.cells ∧ ∃ j, ixN (srcV l s).length i = some j ∧ (srcV l s).set j (.int v) = srcV l s' := by
  unfold srcSet at h
  split at h
  · rename_i h0; cases h; subst h0; exact ⟨rfl, 1, rfl, rfl⟩
  · split at h
    · rename_i h0; cases h; subst h0; exact ⟨rfl, 2, rfl, rfl⟩
    · split at h
      · rename_i h0; cases h; subst h0; exact ⟨rfl, 3, rfl, rfl⟩
      · split at h
        · rename_i h0; cases h; subst h0; exact ⟨rfl, 4, rfl, rfl⟩
        · cases h
theorem ds_setS {o i e : Expr} {mo mi me : DEx} {tpos pos : Pos} (he : DE X B W e me) (ho : DE X B W o mo) (hi : DE X B W i mi)
    (h1 : ∀ v : Value, assign (o.Subscript i tpos) X.env v = (do let ov ← holding [v] (eval o X.env); let iv ← holding [v, ov] (eval i X.env); standAt tpos; holding [v, ov, iv] (setItem ov iv v); release [v, ov, iv] []) := by intro _; rfl)
    (h2 : swapsWithSole [o.Subscript i tpos] e pos.line X.env = pure false := by rfl) (h3 : swappedStores [o.Subscript i tpos] e X.env = pure none := by rfl) (h4 : (assignEach [o.Subscript i tpos] X.env).map (·.2) = [assign (o.Subscript i tpos) X.env] := by rfl) :
    DS X B W (.Assign [.Subscript o i tpos] e pos) (dSetS me mo mi) := by
  refine ⟨psImp (ps_asg he.run (pg_sub ho.run hi.run set_list h1) h2 h3 h4) fun De σ H ⟨ρ, G, env, μ, R, k⟩ => ?_⟩
  refine rd_thenS (f := fun d μ => bindS env (mo env μ) fun o μ => bindS env (mi env μ) fun i μ => fSetS env (hold d) (hold o) (hold i) μ) R k fun ρ1 G1 H1 μ1 x d s p R1 hx k1 => ?_
  refine rd_thenS (f := fun o μ => bindS env (mi env μ) fun i μ => fSetS env (hold d) (hold o) (hold i) μ) R1 k1 fun ρ2 G2 H2 μ2 y d2 s2 p2 R2 hy k2 => ?_
  refine rd_thenS (f := fun i μ => fSetS env (hold d) (hold d2) (hold i) μ) R2 k2 fun ρ3 G3 H3 μ3 z d3 s3 p3 R3 hz k3 => ?_
  have hx := (hx.mono s2 p2).mono s3 p3
  have hy := hy.mono s3 p3
  generalize hold d = d at *
  generalize hold d2 = d2 at *
  generalize hold d3 = d3 at *
  unfold fSetS at k3
  split at k3
  · split at k3
    · rename_i s hs
      split at k3
      · rename_i s' hset
        obtain ⟨a, rfl, ha⟩ := obj_inv hy
        obtain ⟨a', ea, r⟩ := R3.st.at_ _ _ hs
        rw [ha] at ea; cases ea
        obtain ⟨l, e1, e2⟩ := r
        obtain ⟨hc, j, q1, q2⟩ := srcV_set (l := l) hset
        refine ⟨a, _, _, j, rfl, int_inv hz, e1, q1, ?_⟩
        rw [int_inv hx, q2]
        exact k3 σ ρ3 G3 _ (fun _ _ h => h) (.refl _) (R3.setSrc ha hs e1 e2 hc)
      · exact k3.elim
    · exact k3.elim
  · exact k3.elim
end
/-! ### a drawer is made -/
def adopt (m : Fn) : Fn := fun ds μ => match m ds μ with
  | some (.val (.new [.lst cs, .int a, .int b, .int c, .int d]), μ') => (match asInts cs with
    | some ns => some (.val (.obj μ'.length), μ' ++ [.src ⟨ns, a, b, c, d⟩])
    | none => none)
  | _ => none
section
variable {T : Tx} {ρ : List Addr} {G H : Hp} {μ : Mu}
theorem sp_adopt {n : Nat} {m : Fn} {vs : List V} {Q : VK} {E : XK} (h : spD T n (adopt m) vs H Q E) : spD T n m vs H Q E := by
  obtain ⟨hl, ρ, G, ds, μ, gh, st, rs, k⟩ := h
  refine ⟨hl, ρ, G, ds, μ, gh, st, rs, ?_⟩
  unfold adopt at k
  split at k
  · rename_i cs a b c d μ' hm
    rw [hm]
    split at k
    · rename_i ns hns
      intro v ρ' G' H' ex gh' st' ro
      obtain ⟨p, us, rfl, hp, r, z, gp, pn, h0⟩ := ro
      obtain ⟨v0, r0, rfl, q0, r⟩ := r.inv
      obtain ⟨v1, r1, rfl, q1, r⟩ := r.inv
      obtain ⟨v2, r2, rfl, q2, r⟩ := r.inv
      obtain ⟨v3, r3, rfl, q3, r⟩ := r.inv
      obtain ⟨v4, r4, rfl, q4, r⟩ := r.inv
      have r5 := r.inv0
      subst r5
      unfold Rep at q0 q1 q2 q3 q4
      obtain ⟨l, ws, rfl, gl, zl, rl⟩ := q0
      subst q1 q2 q3 q4
      have ew := asInts_inv hns rl
      subst ew
      have pre : Pre ρ' (ρ' ++ [p]) := fun k x e => by rw [List.getElem?_append_left (List.getElem?_eq_some_iff.mp e).1]; exact e
      refine k (.ref p) (ρ' ++ [p]) G' H' ⟨ex.gg, ex.pre.trans pre, ex.keep, ex.fg, fun x hx n => ?_⟩ gh' ⟨by simp [st'.len], ?_, fun x hx => ?_, fun j mm hj => ?_⟩ ?_
      · rcases List.mem_append.mp hx with hx | hx
        · exact ex.fr x hx n
        · rw [List.mem_singleton.mp hx]; exact h0
      · rw [List.nodup_append]
        exact ⟨st'.nd, by simp, fun x hx y hy e => pn (by rw [List.mem_singleton.mp hy] at e; rw [← e]; exact hx)⟩
      · rcases List.mem_append.mp hx with hx | hx
        · exact st'.off x hx
        · rw [List.mem_singleton.mp hx]; exact gp
      · by_cases hlt : j < μ'.length
        · rw [List.getElem?_append_left hlt] at hj
          obtain ⟨x, e1, e2⟩ := st'.at_ j mm hj
          exact ⟨x, pre _ _ e1, e2.pre pre⟩
        · have ej : j = μ'.length := by
            have := (List.getElem?_eq_some_iff.mp hj).1
            simp at this; omega
          subst ej
          rw [List.getElem?_append_right (Nat.le_refl _)] at hj
          simp at hj
          subst hj
          exact ⟨p, by rw [← st'.len]; simp, l, hp, gl⟩
      · show Rep _ _ _ _ _
        unfold Rep
        exact ⟨p, rfl, by rw [← st'.len]; simp⟩
    · exact k.elim
  · exact k.elim
end
section
variable {P : Program} {w : World} {K : PySem.W.Frag} {mg : Str → Option Value} {base : Heap} {CX : CXT} {k : Nat} {f : Addr} {fd : FuncData} {ps : List Str} {sp sp' : Sp}
theorem ok_weak (F : FnOk P w K mg base CX k f fd ps sp) (i : ∀ vs H Q E, sp' vs H Q E → sp vs H Q E) : FnOk P w K mg base CX k f fd ps sp' :=
  ⟨fun vs H Q E h => F.len vs H Q E (i _ _ _ _ h), fun A outer s H args us vs Q E a b c d h => F.run A outer s H args us vs Q E a b c d (i _ _ _ _ h)⟩
theorem ok_adopt {n : Nat} {m : Fn} (F : FnOk P w K mg base CX k f fd ps (spD ⟨K, mg⟩ n m)) : FnOk P w K mg base CX k f fd ps (spD ⟨K, mg⟩ n (adopt m)) := ok_weak F fun _ _ _ _ h => sp_adopt h
/-- a def of which nothing is said -/
def noFn : Fn := fun _ _ => none
theorem ok_none (k : Nat) (f : Addr) (fd : FuncData) (ps : List Str) : FnOk P w K mg base CX k f fd ps (spD ⟨K, mg⟩ ps.length noFn) :=
  ⟨fun vs H Q E h => h.1, fun A outer s H args us vs Q E a b c d ⟨_, ρ, G, ds, μ, _, _, _, k⟩ => k.elim⟩
end
end Dv

/-! DvK: defs by name, calls by name; more operators. -/
namespace Dv
open PySem PySem.Spec PyProof.Rows L2
section
variable {X : Cx} {B : Bs} {W : WX}
def fDiv : F2
  | .int i, .int j, μ => if 0 < j ∧ j < 1073741824 then ret (.int (i / j)) μ else none
  | _, _, _ => none
theorem opd_div : OpD (tx X) (rI CDiv fun i j => .int (i / j)) fDiv := by
  intro B W σ env ρ G H μ x y d d' Q R hx hy k
  unfold fDiv at k
  split at k
  · split at k
    · rename_i h0
      exact ⟨_, _, int_inv hx, int_inv hy, h0, k.here R (.ofR rep_int)⟩
    · exact k.elim
  · exact k.elim
def fPow : F2
  | .int i, .int j, μ => if 0 ≤ j ∧ j ≤ 1000000 ∧ i.natAbs < 18446744073709551616 then ret (.int (i ^ j.toNat)) μ else none
  | _, _, _ => none
theorem opd_pow : OpD (tx X) (rI CPow fun i j => .int (i ^ j.toNat)) fPow := by
  intro B W σ env ρ G H μ x y d d' Q R hx hy k
  unfold fPow at k
  split at k
  · split at k
    · rename_i h0
      exact ⟨_, _, int_inv hx, int_inv hy, ⟨h0.1, h0.2.1, by have := h0.2.2; simpa using this⟩, k.here R (.ofR rep_int)⟩
    · exact k.elim
  · exact k.elim
theorem unitsOk5 {k : Nat} {A : Around} (h : Room k A) : A.units + 65 < cLine := by have := h.un; omega
theorem unitsOk {k : Nat} {A : Around} (h : Room k A) : A.units + 64 < cLine := by have := h.un; omega
end
section
variable {P : Program} {w : World} {K : PySem.W.Frag} {mg : Str → Option Value} {base : Heap}
theorem takes_cx {N : List Str} {qual : Str} {scope : Scope} {f : Addr} {cdv : Value} {A : Around} {outer : List Env} {s : Shared} {H : Hp} {E : XK} :
    Takes (cxOf (L2.CX P w) P w K mg base N qual scope f cdv A outer s H E) (fun cls d _ H => E cls d H) := takes_of rfl rfl rfl rfl
/-- a def, by its name: what it does, how it takes its arguments -/
structure Callee (P : Program) (w : World) (K : PySem.W.Frag) (mg : Str → Option Value) (base : Heap) (x : Str) (ps : List Str) (kb : List (Nat × List Str)) (k : Nat) (m : Fn) : Prop where
  ex : ∃ (f : Addr) (fd : FuncData), mg x = some (.ref f) ∧ PySem.W.keepIn K (.ref f) = true ∧ Binds K fd ps [] ∧ (∀ q ∈ kb, KBn K fd ps q.1 q.2 (fun us ws => us ++ ws) (fun us ws => us ++ ws)) ∧ FnOk P w K mg base (L2.CX P w) k f fd ps (spD ⟨K, mg⟩ ps.length m)
theorem vals_append {vs : List V} {us : List Value} {zs : List V} {ws : List Value} (h : Vals vs us) (g : Vals zs ws) : Vals (vs ++ zs) (us ++ ws) := by
  induction h with
  | nil => exact g
  | cons a _ ih => exact .cons a ih
theorem kbn_of {x qual : Str} {params : Arguments} {body : List Stmt} {scope : Scope} {f : Addr} {fd : FuncData} {ps : List Str} {n : Nat} {ks : List Str} (F : FunD K x qual params body scope [] [] f fd)
    (h : ∀ (kV doc pm : Value) (an : Option Addr) (cdv ct : Value) (us ws : List Value), us.length = n → ws.length = ks.length → bindArgs (PySem.W.fnOf x qual params body scope .none kV doc pm an cdv ct) ⟨us, ks.zip ws⟩ = pure (ps.zip (us ++ ws))) :
    KBn K fd ps n ks (fun us ws => us ++ ws) (fun us ws => us ++ ws) := by
  obtain ⟨oc, od, dV, kV, doc, pm, an, cdv, ct, osl, rfl, _, _, hd, _⟩ := F.ex
  rcases hd with ⟨_, rfl⟩ | ⟨h0, _⟩
  · exact ⟨fun s us ws _ h1 h2 => BindsTo.of_eq (h kV doc pm an cdv ct us ws h1 h2), vals_append⟩
  · exact absurd rfl h0
theorem callee {x qual y : Str} {params : Arguments} {body : List Stmt} {scope : Scope} {f : Addr} {fd : FuncData} {N ps : List Str} {kb : List (Nat × List Str)} {k : Nat} {m : DSt} (hm : mg y = some (.ref f)) (F : FunD K x qual params body scope [] [] f fd) (S : FnScope N ps scope)
    (hb : ∀ (kV doc pm : Value) (an : Option Addr) (cdv ct : Value) (us : List Value), us.length = ps.length → bindArgs (PySem.W.fnOf x qual params body scope .none kV doc pm an cdv ct) ⟨us, []⟩ = pure (ps.zip us))
    (hkb : ∀ q ∈ kb, ∀ (kV doc pm : Value) (an : Option Addr) (cdv ct : Value) (us ws : List Value), us.length = q.1 → ws.length = q.2.length → bindArgs (PySem.W.fnOf x qual params body scope .none kV doc pm an cdv ct) ⟨us, q.2.zip ws⟩ = pure (ps.zip (us ++ ws)))
    (hbody : ∀ (cdv : Value) (A : Around) (outer : List Env) (s : Shared) (H : Hp) (E : XK) (B : Bs), Room k (A.deeper (envOfC qual scope s.heap.objs.size f cdv)) → DSs (cxOf (L2.CX P w) P w K mg base N qual scope f cdv A outer s H E) B (fun cls d _ H => E cls d H) body m) :
    Callee P w K mg base y ps kb (k + 1) (cleanD (defD N.length m)) :=
  ⟨f, fd, hm, F.kp, F.bindsN hb, fun q hq => kbn_of F (hkb q hq), def_ok F S hbody⟩
theorem Callee.adopt {y : Str} {ps : List Str} {kb : List (Nat × List Str)} {k : Nat} {m : Fn} (C : Callee P w K mg base y ps kb k m) : Callee P w K mg base y ps kb k (adopt m) := by
  obtain ⟨f, fd, h1, h2, h3, h4, h5⟩ := C.ex
  exact ⟨f, fd, h1, h2, h3, h4, ok_adopt h5⟩
/-- nothing is said -/
theorem callee0 {x qual y : Str} {params : Arguments} {body : List Stmt} {scope : Scope} {f : Addr} {fd : FuncData} {ps : List Str} {kb : List (Nat × List Str)} {k : Nat} (hm : mg y = some (.ref f)) (F : FunD K x qual params body scope [] [] f fd)
    (hb : ∀ (kV doc pm : Value) (an : Option Addr) (cdv ct : Value) (us : List Value), us.length = ps.length → bindArgs (PySem.W.fnOf x qual params body scope .none kV doc pm an cdv ct) ⟨us, []⟩ = pure (ps.zip us))
    (hkb : ∀ q ∈ kb, ∀ (kV doc pm : Value) (an : Option Addr) (cdv ct : Value) (us ws : List Value), us.length = q.1 → ws.length = q.2.length → bindArgs (PySem.W.fnOf x qual params body scope .none kV doc pm an cdv ct) ⟨us, q.2.zip ws⟩ = pure (ps.zip (us ++ ws))) :
    Callee P w K mg base y ps kb k noFn :=
  ⟨f, fd, hm, F.kp, F.bindsN hb, fun q hq => kbn_of F (hkb q hq), ok_none k f fd ps⟩
end
section
variable {X : Cx} {B : Bs} {W : WX}
theorem de_callN {k n : Nat} {ps : List Str} {kb : List (Nat × List Str)} {m : Fn} {x : Str} {p pos : Pos} {e : Expr} {es : List Expr} {na : DEnv → Mu → Res (List D)} (C : Callee X.prog X.w X.K X.mg X.base x ps kb k m) (hr : Room k X.A) (tk : Takes X W) (hg : Gl X x) (ha : DA X B W (e :: es) na) (hn : ps.length = n := by rfl)
    (hdb : (x == ("__debug__" : Str)) = false := by decide) (he : starEach (e :: es) X.env = (false, eval e X.env) :: starEach es X.env := by rfl) (hpl : (backTo pos (starEach es X.env)).any (·.1) = false := by rfl) :
    DE X B W (.Call (.Name x p) (e :: es) [] pos) (dCall (fCall n m) na) := by
  subst hn
  obtain ⟨f, fd, h1, h2, h3, h4, h5⟩ := C.ex
  exact de_call (ds := []) (dvs := []) h5 hr tk hg h1 h2 h3 ha hdb he hpl
theorem de_callKN {k n0 n l : Nat} {ps ks : List Str} {kb : List (Nat × List Str)} {m : Fn} {x : Str} {p pos : Pos} {e : Expr} {es : List Expr} {kws : List Keyword} {na nk : DEnv → Mu → Res (List D)} (C : Callee X.prog X.w X.K X.mg X.base x ps kb k m) (hr : Room k X.A) (tk : Takes X W) (hg : Gl X x)
    (hb : (n0, ks) ∈ kb) (ha : DA X B W (e :: es) na) (hkw : DK X B W kws nk) (hn : ps.length = n := by rfl) (hl : ks.length = l := by rfl) (hall : (backToKw pos (keywordEach kws X.env)).all (·.1.isSome) = true := by rfl) (hks : (backToKw pos (keywordEach kws X.env)).filterMap (·.1) = ks := by rfl)
    (hdb : (x == ("__debug__" : Str)) = false := by decide) (he : starEach (e :: es) X.env = (false, eval e X.env) :: starEach es X.env := by rfl)
    (hpl : ((backTo pos (starEach (e :: es) X.env)).any (·.1) || (backToKw pos (keywordEach kws X.env)).any (·.1.isNone)) = false := by rfl) :
    DE X B W (.Call (.Name x p) (e :: es) kws pos) (dCallK (fCall n m) n0 l na nk) := by
  subst hn hl
  obtain ⟨f, fd, h1, h2, h3, h4, h5⟩ := C.ex
  exact de_callK h5 hr tk hg h1 h2 (h4 _ hb) ha hkw hall hks hdb he hpl
end
end Dv

/-! DvL: short forms of the rules, for printed derivations. -/
namespace Dv
open PySem PySem.Spec PyProof.Rows L2
section
variable {X : Cx} {B : Bs} {W : WX}
theorem vv (i : Nat) {x : Str} {pos : Pos} (h : X.N[i]? = some x := by rfl) (h2 : Vis X.env.scope x := by first | exact .inl rfl | exact .inr (.inl rfl) | exact .inr (.inr rfl) | rfl | decide +kernel) (h3 : (x == Str.ofString "__debug__") = false := by rfl) (h4 : (x == Str.ofString "__classdict__") = false := by rfl) : DE X B W (.Name x pos) (dVar i) := de_var (pv i h h2 h3 h4)
theorem boot_len' : bootBuiltins "len" = some (.builtin "len") := by kernel_rfl
theorem len_ {p pos : Pos} {e : Expr} {es : List Expr} {n : DEnv → Mu → Res (List D)} (hm : X.mg "len" = none) (ha : DA X B W (e :: es) n) (hg : Gl X "len" := by rfl) (he : starEach (e :: es) X.env = (false, eval e X.env) :: starEach es X.env := by rfl) (hpl : (backTo pos (starEach es X.env)).any (·.1) = false := by rfl) : DE X B W (.Call (.Name "len" p) (e :: es) [] pos) (dCall fLen n) := de_callB (call_len) ca_len hg hm boot_len' ha (by decide) (by decide) he hpl
theorem boot_sum' : bootBuiltins "sum" = some (.builtin "sum") := by kernel_rfl
theorem sum_ {p pos : Pos} {e : Expr} {es : List Expr} {n : DEnv → Mu → Res (List D)} (hm : X.mg "sum" = none) (ha : DA X B W (e :: es) n) (hg : Gl X "sum" := by rfl) (hc : X.calm = true := by rfl) (he : starEach (e :: es) X.env = (false, eval e X.env) :: starEach es X.env := by rfl) (hpl : (backTo pos (starEach es X.env)).any (·.1) = false := by rfl) : DE X B W (.Call (.Name "sum" p) (e :: es) [] pos) (dCall fSum n) := de_callB (cr_sum hc) ca_sum hg hm boot_sum' ha (by decide) (by decide) he hpl
theorem boot_all' : bootBuiltins "all" = some (.builtin "all") := by kernel_rfl
theorem all_ {p pos : Pos} {e : Expr} {es : List Expr} {n : DEnv → Mu → Res (List D)} (hm : X.mg "all" = none) (ha : DA X B W (e :: es) n) (hg : Gl X "all" := by rfl) (hc : X.calm = true := by rfl) (he : starEach (e :: es) X.env = (false, eval e X.env) :: starEach es X.env := by rfl) (hpl : (backTo pos (starEach es X.env)).any (·.1) = false := by rfl) : DE X B W (.Call (.Name "all" p) (e :: es) [] pos) (dCall fAll n) := de_callB (cr_all hc) ca_all hg hm boot_all' ha (by decide) (by decide) he hpl
theorem boot_any' : bootBuiltins "any" = some (.builtin "any") := by kernel_rfl
theorem any_ {p pos : Pos} {e : Expr} {es : List Expr} {n : DEnv → Mu → Res (List D)} (hm : X.mg "any" = none) (ha : DA X B W (e :: es) n) (hg : Gl X "any" := by rfl) (hc : X.calm = true := by rfl) (he : starEach (e :: es) X.env = (false, eval e X.env) :: starEach es X.env := by rfl) (hpl : (backTo pos (starEach es X.env)).any (·.1) = false := by rfl) : DE X B W (.Call (.Name "any" p) (e :: es) [] pos) (dCall fAny n) := de_callB (cr_any hc) ca_any hg hm boot_any' ha (by decide) (by decide) he hpl
theorem boot_int' : bootBuiltins "int" = some (.type "int") := by kernel_rfl
theorem int_ {p pos : Pos} {e : Expr} {es : List Expr} {n : DEnv → Mu → Res (List D)} (hm : X.mg "int" = none) (ha : DA X B W (e :: es) n) (hg : Gl X "int" := by rfl) (he : starEach (e :: es) X.env = (false, eval e X.env) :: starEach es X.env := by rfl) (hpl : (backTo pos (starEach es X.env)).any (·.1) = false := by rfl) : DE X B W (.Call (.Name "int" p) (e :: es) [] pos) (dCall fInt n) := de_callTy (call_int1) ca_int hg hm boot_int' ha (by decide) (by decide) he hpl
theorem boot_list' : bootBuiltins "list" = some (.type "list") := by kernel_rfl
theorem list_ {p pos : Pos} {e : Expr} {es : List Expr} {n : DEnv → Mu → Res (List D)} (hm : X.mg "list" = none) (ha : DA X B W (e :: es) n) (hg : Gl X "list" := by rfl) (he : starEach (e :: es) X.env = (false, eval e X.env) :: starEach es X.env := by rfl) (hpl : (backTo pos (starEach es X.env)).any (·.1) = false := by rfl) : DE X B W (.Call (.Name "list" p) (e :: es) [] pos) (dCall fList n) := de_callTy (call_list_of) ca_list hg hm boot_list' ha (by decide) (by decide) he hpl
theorem boot_tuple' : bootBuiltins "tuple" = some (.type "tuple") := by kernel_rfl
theorem tuple_ {p pos : Pos} {e : Expr} {es : List Expr} {n : DEnv → Mu → Res (List D)} (hm : X.mg "tuple" = none) (ha : DA X B W (e :: es) n) (hg : Gl X "tuple" := by rfl) (he : starEach (e :: es) X.env = (false, eval e X.env) :: starEach es X.env := by rfl) (hpl : (backTo pos (starEach es X.env)).any (·.1) = false := by rfl) : DE X B W (.Call (.Name "tuple" p) (e :: es) [] pos) (dCall fTuple n) := de_callTy (call_tuple_of) ca_tuple hg hm boot_tuple' ha (by decide) (by decide) he hpl
theorem boot_isi' : bootBuiltins "isinstance" = some (.builtin "isinstance") := by kernel_rfl
theorem isi_ {p pos : Pos} {e : Expr} {es : List Expr} {n : DEnv → Mu → Res (List D)} (hm : X.mg "isinstance" = none) (ha : DA X B W (e :: es) n) (hg : Gl X "isinstance" := by rfl) (he : starEach (e :: es) X.env = (false, eval e X.env) :: starEach es X.env := by rfl) (hpl : (backTo pos (starEach es X.env)).any (·.1) = false := by rfl) : DE X B W (.Call (.Name "isinstance" p) (e :: es) [] pos) (dCall fIsi n) := de_callB (call_isi.or (call_isiT.or call_isiK)) ca_isi hg hm boot_isi' ha (by decide) (by decide) he hpl
theorem ty_int {p : Pos} (hm : X.mg "int" = none) (hg : Gl X "int" := by rfl) : DE X B W (.Name "int" p) (dC (.ty "int")) := de_c (pe_bltn hg hm (u := .type "int") (by kernel_rfl) (show RelV (.ty "int") (.type "int") from rfl)) fun _ _ => rep_ty
theorem ty_bool {p : Pos} (hm : X.mg "bool" = none) (hg : Gl X "bool" := by rfl) : DE X B W (.Name "bool" p) (dC (.ty "bool")) := de_c (pe_bltn hg hm (u := .type "bool") (by kernel_rfl) (show RelV (.ty "bool") (.type "bool") from rfl)) fun _ _ => rep_ty
theorem ty_str {p : Pos} (hm : X.mg "str" = none) (hg : Gl X "str" := by rfl) : DE X B W (.Name "str" p) (dC (.ty "str")) := de_c (pe_bltn hg hm (u := .type "str") (by kernel_rfl) (show RelV (.ty "str") (.type "str") from rfl)) fun _ _ => rep_ty
theorem ty_tuple {p : Pos} (hm : X.mg "tuple" = none) (hg : Gl X "tuple" := by rfl) : DE X B W (.Name "tuple" p) (dC (.ty "tuple")) := de_c (pe_bltn hg hm (u := .type "tuple") (by kernel_rfl) (show RelV (.ty "tuple") (.type "tuple") from rfl)) fun _ _ => rep_ty
theorem ty_list {p : Pos} (hm : X.mg "list" = none) (hg : Gl X "list" := by rfl) : DE X B W (.Name "list" p) (dC (.ty "list")) := de_c (pe_bltn hg hm (u := .type "list") (by kernel_rfl) (show RelV (.ty "list") (.type "list") from rfl)) fun _ _ => rep_ty
theorem ix_ {a b : Expr} {ma mb : DEx} {pos : Pos} (ha : DE X B W a ma) (hb : DE X B W b mb) (hs : PlainIx b := by exact fun _ _ => rfl) : DE X B W (.Subscript a b pos) (dBin fIxS ma mb) := de_ix ix_seq opd_ixS ha hb hs
end
end Dv

/-! DvM: the law's end. -/
namespace Dv
open PySem PySem.Spec PyProof.Rows L2
section
variable {P : Program} {w : World} {K : PySem.W.Frag} {mg : Str → Option Value} {base : Heap} {k : Nat} {f : Addr} {fd : FuncData} {ps : List Str} {sp : Sp}
theorem ok_calm (F : FnOk P w K mg base (L2.CX P w) k f fd ps sp) : FnOk P w K mg base CX0 k f fd ps (fun vs H Q _ => sp vs H Q fun _ _ _ => False) := by
  refine ⟨fun vs H Q E h => F.len vs H Q _ h, fun A outer s H args us vs Q E a b c d h => codeAny_mono (F.run A outer s H args us vs Q _ a b c d h) fun r s' hr => ?_⟩
  cases r with
  | error e =>
    obtain ⟨_, _, _, _, _, _, _, _, _, _, _, _, z⟩ := hr
    exact z.elim
  | ok fl =>
    cases fl with
    | ret u => exact hr
    | next => exact hr
    | brk => exact hr
    | cont => exact hr
/-- the law is called -/
theorem sp_start {m : Fn} {μ' : Mu} {H : Hp} {a : Addr} {ns : List Int} (hm : m [.scr (ns.map D.int)] [] = some (.val (.bl true), μ')) (hl : ns.length ≤ 63) (hS : SqL K H a (ns.map V.int)) :
    spD ⟨K, mg⟩ 1 m [.ref a] H (fun v _ => v = .bl true) (fun _ _ _ => False) := by
  refine ⟨rfl, [], H, [.scr (ns.map D.int)], [], fun _ _ h => h, ⟨rfl, List.nodup_nil, fun _ h => absurd h List.not_mem_nil, fun k m h => by simp at h⟩, .cons ?_ .nil, ?_⟩
  · unfold Rep
    exact ⟨a, _, rfl, hS, by rw [List.length_map]; exact Nat.le_trans hl (by decide), reps_ints ns⟩
  · rw [hm]
    intro v ρ' G' H' _ _ _ h
    have h : Rep ⟨K, mg⟩ ρ' G' v (.bl true) := h
    unfold Rep at h; exact h
end
end Dv

/-! DvP: meanings evaluated, by plain lemmas. -/
namespace Dv
open PySem PySem.Spec PyProof.Rows L2
theorem seq_nx {a b : DSt} {env env' : DEnv} {μ μ' : Mu} {r : RS} (h : a env μ = some (.val .nx, env', μ')) (g : b env' μ' = r) : dSeq a b env μ = r := by
  unfold dSeq; rw [h]; exact g
theorem seq_ret {a b : DSt} {env env' : DEnv} {μ μ' : Mu} {d : D} (h : a env μ = some (.val (.ret d), env', μ')) : dSeq a b env μ = some (.val (.ret d), env', μ') := by
  unfold dSeq; rw [h]
theorem ifs_t {t : DEnv → Mu → Res Bool} {a b : DSt} {env : DEnv} {μ μ' : Mu} {r : RS} (h : t env μ = some (.val true, μ')) (g : a env μ' = r) : dIfS t a b env μ = r := by
  unfold dIfS bindS; rw [h]; exact g
theorem ifs_f {t : DEnv → Mu → Res Bool} {a b : DSt} {env : DEnv} {μ μ' : Mu} {r : RS} (h : t env μ = some (.val false, μ')) (g : b env μ' = r) : dIfS t a b env μ = r := by
  unfold dIfS bindS; rw [h]; exact g
theorem asg_ {m : DEx} {t : DTg} {env env' : DEnv} {μ μ' : Mu} {d : D} (h : m env μ = some (.val d, μ')) (n : nobor d = true) (g : t env (hold d) = some env') : dAsg m t env μ = some (.val .nx, env', μ') := by
  unfold dAsg bindS; rw [h]; simp only [n, g, if_true]
theorem ret_ {m : DEx} {env : DEnv} {μ μ' : Mu} {d : D} (h : m env μ = some (.val d, μ')) : dRet m env μ = some (.val (.ret (unbor d)), env, μ') := by
  unfold dRet bindS; rw [h]
theorem clean_ {m : Fn} {ds : List D} {μ μ' : Mu} {d : D} (h : m ds μ = some (.val d, μ')) (n : nobor d = true) : cleanD m ds μ = some (.val d, μ') := by
  unfold cleanD; rw [h]; simp only [n, if_true]
theorem def_ret {n : Nat} {b : DSt} {ds : List D} {env : DEnv} {μ μ' : Mu} {d : D} (h : b (envD n ds) μ = some (.val (.ret d), env, μ')) (hn : nobor d = true) : cleanD (defD n b) ds μ = some (.val d, μ') :=
  clean_ (by unfold defD; rw [h]; rfl) hn
theorem call_ {n : Nat} {m : Fn} {ds : List D} {μ : Mu} {r : Res D} (h : m ds μ = r) (hl : ds.length = n := by rfl) (ha : ds.all nobor = true := by rfl) : fCall n m ds μ = r := by
  unfold fCall; rw [if_pos ⟨hl, ha⟩]; exact h
/-! ### comprehensions -/
theorem lc_map {α : Type} {tg : DTg} {tt : DEnv → Mu → Res Bool} {el : DEx} {env : DEnv} {μ : Mu} (f g : α → D) : ∀ (l : List α), (∀ a ∈ l, ∃ env1, tg env (f a) = some env1 ∧ tt env1 μ = some (.val true, μ) ∧ el env1 μ = some (.val (g a), μ) ∧ nobor (g a) = true) →
    lcRun tg tt el env (l.map f) μ = some (l.map fun a => hold (g a), μ)
  | [], _ => rfl
  | a :: l, h => by
    obtain ⟨env1, h1, h2, h3, h4⟩ := h a List.mem_cons_self
    simp only [List.map_cons]
    unfold lcRun
    simp only [h1, h2, h3, h4, if_true, lc_map f g l fun b hb => h b (List.mem_cons_of_mem _ hb)]
/-- tests that may say no -/
theorem lc_filter {α : Type} {tg : DTg} {tt : DEnv → Mu → Res Bool} {el : DEx} {env : DEnv} {μ : Mu} (f g : α → D) (c : α → Bool) : ∀ (l : List α), (∀ a ∈ l, ∃ env1, tg env (f a) = some env1 ∧ tt env1 μ = some (.val (c a), μ) ∧ el env1 μ = some (.val (g a), μ) ∧ nobor (g a) = true) →
    lcRun tg tt el env (l.map f) μ = some ((l.filter c).map fun a => hold (g a), μ)
  | [], _ => rfl
  | a :: l, h => by
    obtain ⟨env1, h1, h2, h3, h4⟩ := h a List.mem_cons_self
    have ih := lc_filter f g c l fun b hb => h b (List.mem_cons_of_mem _ hb)
    simp only [List.map_cons]
    unfold lcRun
    cases hc : c a with
    | true =>
      rw [hc] at h2
      simp only [h1, h2, h3, h4, if_true, ih, List.filter_cons_of_pos hc, List.map_cons]
    | false =>
      rw [hc] at h2
      simp only [h1, h2, ih, List.filter_cons_of_neg (by simp [hc] : ¬ c a = true)]
/-- each turn may change the store -/
theorem lc_inv {tg : DTg} {tt : DEnv → Mu → Res Bool} {el : DEx} {env : DEnv} (I : Mu → Prop) (R : D → Prop) : ∀ (l : List D), (∀ d ∈ l, ∀ μ, I μ → ∃ env1 x μ', tg env d = some env1 ∧ tt env1 μ = some (.val true, μ) ∧ el env1 μ = some (.val x, μ') ∧ nobor x = true ∧ I μ' ∧ R (hold x)) →
    ∀ μ, I μ → ∃ xs μ', lcRun tg tt el env l μ = some (xs, μ') ∧ xs.length = l.length ∧ I μ' ∧ ∀ x ∈ xs, R x
  | [], _, μ, h => ⟨[], μ, rfl, rfl, h, fun _ hx => absurd hx List.not_mem_nil⟩
  | d :: l, h, μ, hI => by
    obtain ⟨env1, x, μ1, h1, h2, h3, h4, h5, h6⟩ := h d List.mem_cons_self μ hI
    obtain ⟨xs, μ2, e1, e2, e3, e4⟩ := lc_inv I R l (fun b hb => h b (List.mem_cons_of_mem _ hb)) μ1 h5
    refine ⟨hold x :: xs, μ2, ?_, by simp [e2], e3, fun y hy => ?_⟩
    · unfold lcRun
      simp only [h1, h2, h3, h4, if_true, e1]
    · rcases List.mem_cons.mp hy with rfl | hy
      · exact h6
      · exact e4 y hy
theorem dLc_of {it : DEnv → Mu → Res (List D)} {own : List Nat} {tg : DTg} {tt : DEnv → Mu → Res Bool} {el : DEx} {env : DEnv} {μ μ1 μ2 : Mu} {ds l : List D} (no : noOwn env own = true) (hi : it env μ = some (.val ds, μ1)) (hr : lcRun tg tt el (wipeD env own) ds μ1 = some (l, μ2)) : dLc it own tg tt el env μ = some (.val (.new l), μ2) := by
  unfold dLc
  rw [if_pos no, hi]
  simp only [bindR, lcFin, hr]
/-- every turn goes on -/
theorem for_nx {tg : DTg} {body : DSt} (I : DEnv → Mu → Prop) : ∀ (l : List D), (∀ d ∈ l, ∀ env μ, I env μ → ∃ env1 env2 μ2, tg env d = some env1 ∧ body env1 μ = some (.val .nx, env2, μ2) ∧ I env2 μ2) →
    ∀ env μ, I env μ → ∃ env' μ', forRun tg body l env μ = some (.val .nx, env', μ') ∧ I env' μ'
  | [], _, env, μ, h => ⟨env, μ, rfl, h⟩
  | d :: l, h, env, μ, hI => by
    obtain ⟨env1, env2, μ2, h1, h2, h3⟩ := h d List.mem_cons_self env μ hI
    obtain ⟨env3, μ3, e1, e2⟩ := for_nx I l (fun b hb => h b (List.mem_cons_of_mem _ hb)) env2 μ2 h3
    refine ⟨env3, μ3, ?_, e2⟩
    unfold forRun
    simp only [h1, h2, e1]
theorem for_of {it : DEnv → Mu → Res (List D)} {tg : DTg} {b : DSt} {env : DEnv} {μ μ1 : Mu} {ds : List D} {r : RS} (hi : it env μ = some (.val ds, μ1)) (hr : forRun tg b ds env μ1 = r) : dFor it tg b env μ = r := by
  unfold dFor bindS; rw [hi]; exact hr
/-! ### rows of intsD -/
abbrev intsD (l : List Int) : List D := l.map D.int
abbrev tupI (l : List Int) : D := .tup (intsD l)
abbrev lstI (l : List Int) : D := .lst (intsD l)
theorem zip_ints (xs ys : List Int) : List.zipWith pairD (intsD xs) (intsD ys) = (xs.zip ys).map fun q => pairD (.int q.1) (.int q.2) := by
  rw [List.zipWith_map]
  induction xs generalizing ys with
  | nil => rfl
  | cons x xs ih => cases ys with
    | nil => rfl
    | cons y ys => simp [ih]
theorem asInts_intsD : ∀ l : List Int, asInts (intsD l) = some l
  | [] => rfl
  | i :: l => by
    have := asInts_intsD l
    show asInts (D.int i :: intsD l) = _
    unfold asInts
    rw [this]; rfl
theorem plainD_int (n : Nat) (i : Int) : plainD n (.int i) = true := by cases n <;> rfl
theorem plain_ints (n : Nat) (l : List Int) : (intsD l).all (plainD n) = true := by
  rw [List.all_eq_true]; intro d hd
  obtain ⟨i, _, rfl⟩ := List.mem_map.mp hd
  exact plainD_int n i
theorem nobor_ints (l : List Int) : (intsD l).all nobor = true := by
  rw [List.all_eq_true]; intro d hd
  obtain ⟨i, _, rfl⟩ := List.mem_map.mp hd
  rfl
end Dv

/-! DvQ: what the laws' helpers mean, and what that comes to. -/
namespace Dv
open PySem PySem.Spec PyProof.Rows L2
def bDraw : DSt := (dSeq (dIfS (dAndT (dTest (dBin fEq (dBin fIxS (dVar 0) (dC (.int 2))) (dC (.int 0)))) (dTest (dBin (fCmp fun i j => decide (i < j)) (dBin fIxS (dVar 0) (dC (.int 1))) (dCall fLen (dCons (dBin fIxS (dVar 0) (dC (.int 0))) dNil))))) (dSeq (dAsg (dBin fIxS (dBin fIxS (dVar 0) (dC (.int 0))) (dBin fIxS (dVar 0) (dC (.int 1)))) (tName 2))
  (dSeq (dSetS (dBin fAdd (dBin fIxS (dVar 0) (dC (.int 1))) (dC (.int 1))) (dVar 0) (dC (.int 1)))
  (dIfS (dTest (dBin (fCmp fun i j => decide (j ≤ i)) (dVar 2) (dBin fPow (dC (.int 10)) (dC (.int 18))))) (dSetS (dVar 2) (dVar 0) (dC (.int 2))) (dSetS (dBin fMod (dCall fInt (dCons (dBin fAdd (dBin fAdd (dBin fMul (dBin fIxS (dVar 0) (dC (.int 3))) (dC (.int 45053))) (dBin fMul (dBin fMod (dCall fInt (dCons (dVar 2) dNil)) (dC (.int 2147483563))) (dC (.int 50033)))) (dC (.int 67))) dNil)) (dC (.int 2147483587))) (dVar 0) (dC (.int 3)))))) dSkip)
  (dSeq (dIfS (dTest (dBin (fCmp fun i j => decide (j < i)) (dBin fIxS (dVar 0) (dC (.int 2))) (dC (.int 0)))) (dSeq (dAsg (dBin fMod (dCall fInt (dCons (dBin fIxS (dVar 0) (dC (.int 2))) dNil)) (dVar 1)) (tName 3))
  (dSeq (dSetS (dBin fDiv (dBin fIxS (dVar 0) (dC (.int 2))) (dVar 1)) (dVar 0) (dC (.int 2)))
  (dRet (dVar 3)))) dSkip)
  (dSeq (dSetS (dBin fAdd (dBin fIxS (dVar 0) (dC (.int 4))) (dC (.int 1))) (dVar 0) (dC (.int 4)))
  (dSeq (dAsg (dBin fIxS (dVar 0) (dC (.int 3))) (tName 4))
  (dSeq (dSetS (dBin fMod (dCall fInt (dCons (dBin fAdd (dBin fAdd (dBin fAdd (dBin fMul (dVar 4) (dVar 4)) (dBin fMul (dVar 4) (dC (.int 33023)))) (dBin fMul (dBin fIxS (dVar 0) (dC (.int 4))) (dC (.int 1299709)))) (dC (.int 85571))) dNil)) (dC (.int 2147483587))) (dVar 0) (dC (.int 3)))
  (dRet (dBin fMod (dCall fInt (dCons (dBin fAdd (dBin fDiv (dBin fIxS (dVar 0) (dC (.int 3))) (dC (.int 71))) (dBin fMul (dBin fMod (dCall fInt (dCons (dBin fIxS (dVar 0) (dC (.int 3))) dNil)) (dC (.int 7907))) (dC (.int 59)))) dNil)) (dVar 1))))))))
def mDraw : Fn := cleanD (defD 5 bDraw)
def bOf : DSt := (dRet (dBin fIxS (dVar 1) (dCall (fCall 2 mDraw) (dCons (dVar 0) (dCons (dCall fLen (dCons (dVar 1) dNil)) dNil)))))
def mOf : Fn := cleanD (defD 2 bOf)
def bRow : DSt := (dRet (dCall fTuple (dCons (dLc (dArg fRange1 (dCons (dVar 2) dNil)) [3] (tName 3) dYes (dCall (fCall 2 mDraw) (dCons (dVar 0) (dCons (dVar 1) dNil)))) dNil)))
def mRow : Fn := cleanD (defD 4 bRow)
def bSum : DSt := (dRet (dCall fTuple (dCons (dLc (dArg fZip (dCons (dVar 1) (dCons (dVar 2) dNil))) [4, 5] (Dv.tTup 2 (tsCons (tName 4) (tsCons (tName 5) tsNil))) dYes (dBin fMod (dCall fInt (dCons (dBin fAdd (dVar 4) (dBin fMul (dVar 3) (dVar 5))) dNil)) (dVar 0))) dNil)))
def mSum : Fn := cleanD (defD 6 bSum)
def bLead : DSt := (dSeq (dAsg (dLc (dArg fRange1 (dCons (dCall fLen (dCons (dVar 0) dNil)) dNil)) [2] (tName 2) (dTest (dBin fNe (dBin fIxS (dVar 0) (dVar 2)) (dC (.int 0)))) (dVar 2)) (tName 1))
  (dRet (dIf (dTest (dBin fNe (dVar 1) (dLst dNil))) (dBin fIxS (dVar 1) (dC (.int 0))) (dBin fSub (dC (.int 0)) (dC (.int 1))))))
def mLead : Fn := cleanD (defD 3 bLead)
def bLike (f : Fn) : DSt := (dSeq (dIfS (dTest (dCall fIsi (dCons (dVar 1) (dCons (dTup (dCons (dC (.ty "list")) (dCons (dC (.ty "tuple")) dNil))) dNil)))) (dSeq (dIfS (dTest (dBin fNe (dCall fIsi (dCons (dVar 0) (dCons (dC (.ty "list")) dNil))) (dCall fIsi (dCons (dVar 1) (dCons (dC (.ty "list")) dNil))))) (dRet (dC (.bl false))) dSkip)
  (dSeq (dIfS (dTest (dBin fNe (dCall fIsi (dCons (dVar 0) (dCons (dC (.ty "tuple")) dNil))) (dCall fIsi (dCons (dVar 1) (dCons (dC (.ty "tuple")) dNil))))) (dRet (dC (.bl false))) dSkip)
  (dRet (dAndV (dBin fEq (dCall fLen (dCons (dVar 0) dNil)) (dCall fLen (dCons (dVar 1) dNil))) (dCall fAll (dCons (dLc (dArg fZip (dCons (dVar 0) (dCons (dVar 1) dNil))) [2, 3] (Dv.tTup 2 (tsCons (tName 2) (tsCons (tName 3) tsNil))) dYes (dCall (fCall 2 f) (dCons (dVar 2) (dCons (dVar 3) dNil)))) dNil)))))) dSkip)
  (dSeq (dIfS (dOrT (dTest (dBin (fIs false) (dVar 1) (dC .non))) (dTest (dBin (fIs false) (dVar 0) (dC .non)))) (dRet (dAndV (dBin (fIs false) (dVar 1) (dC .non)) (dBin (fIs false) (dVar 0) (dC .non)))) dSkip)
  (dSeq (dIfS (dOrT (dTest (dBin fNe (dCall fIsi (dCons (dVar 0) (dCons (dC (.ty "bool")) dNil))) (dCall fIsi (dCons (dVar 1) (dCons (dC (.ty "bool")) dNil))))) (dTest (dBin fNe (dCall fIsi (dCons (dVar 0) (dCons (dC (.ty "int")) dNil))) (dCall fIsi (dCons (dVar 1) (dCons (dC (.ty "int")) dNil)))))) (dRet (dC (.bl false))) dSkip)
  (dRet (dAndV (dBin fEq (dCall fIsi (dCons (dVar 0) (dCons (dC (.ty "str")) dNil))) (dCall fIsi (dCons (dVar 1) (dCons (dC (.ty "str")) dNil)))) (dBin fEq (dVar 0) (dVar 1)))))))
def mLike : Nat → Fn
  | 0 => noFn
  | n + 1 => cleanD (defD 4 (bLike (mLike n)))
def bAdded : DSt := (dRet (dCall fTuple (dCons (dLc (dArg fZip (dCons (dVar 0) (dCons (dVar 1) dNil))) [3, 4] (Dv.tTup 2 (tsCons (tName 3) (tsCons (tName 4) tsNil))) dYes (dBin fMod (dBin fAdd (dVar 3) (dVar 4)) (dVar 2))) dNil)))
def mAdded : Fn := cleanD (defD 5 bAdded)
def bMultiplied : DSt := (dRet (dCall fTuple (dCons (dLc (dIter (dVar 0)) [3] (tName 3) dYes (dBin fMod (dBin fMul (dVar 3) (dVar 1)) (dVar 2))) dNil)))
def mMultiplied : Fn := cleanD (defD 4 bMultiplied)
def bLeadingPlace : DSt := (dSeq (dFor (dArg fEnum (dCons (dVar 0) dNil)) (Dv.tTup 2 (tsCons (tName 1) (tsCons (tName 2) tsNil))) (dIfS (dTest (dBin fNe (dVar 2) (dC (.int 0)))) (dRet (dVar 1)) dSkip))
  (dRet (dCall fLen (dCons (dVar 0) dNil))))
def mLeadingPlace : Fn := cleanD (defD 3 bLeadingPlace)
def bInverse : DSt := (dRet (dBin fIxS (dLc (dArg fRange2 (dCons (dC (.int 1)) (dCons (dVar 1) dNil))) [2] (tName 2) (dTest (dBin fEq (dBin fMod (dBin fMul (dVar 0) (dVar 2)) (dVar 1)) (dC (.int 1)))) (dVar 2)) (dC (.int 0))))
def mInverse : Fn := cleanD (defD 3 bInverse)
def bScaled : DSt := (dSeq (dAsg (dCall (fCall 1 mLeadingPlace) (dCons (dVar 0) dNil)) (tName 2))
  (dSeq (dIfS (dTest (dBin fEq (dVar 2) (dCall fLen (dCons (dVar 0) dNil)))) (dRet (dCall fTuple (dCons (dVar 0) dNil))) dSkip)
  (dRet (dCall (fCall 3 mMultiplied) (dCons (dVar 0) (dCons (dCall (fCall 2 mInverse) (dCons (dBin fIxS (dVar 0) (dVar 2)) (dCons (dVar 1) dNil))) (dCons (dVar 1) dNil)))))))
def mScaled : Fn := cleanD (defD 3 bScaled)
def bValue : DSt := (dRet (dBin fMod (dCall fSum (dCons (dLc (dArg fZip (dCons (dVar 0) (dCons (dVar 1) dNil))) [3, 4] (Dv.tTup 2 (tsCons (tName 3) (tsCons (tName 4) tsNil))) dYes (dBin fMul (dVar 3) (dVar 4))) dNil)) (dVar 2)))
def mValue : Fn := cleanD (defD 5 bValue)
structure OkS (s : Src) : Prop where
  sz : s.cells.length ≤ 63
  a0 : 0 ≤ s.at_
  s0 : 0 ≤ s.seed
  s1 : s.seed < 2147483587
theorem deq_int (i j : Int) : deq (.int i) (.int j) = decide (i = j) := by
  simp only [deq, toPy, PyData.eqv]; rfl
theorem feq_int (i j : Int) (μ : Mu) : fEq (.int i) (.int j) μ = some (.val (.bl (decide (i = j))), μ) := by
  simp only [fEq, plainD_int, Bool.and_self, if_true, deq_int, Dv.ret]
theorem sg1 (s : Src) : srcGet s 1 = some (.int s.at_) := rfl
theorem sg2 (s : Src) : srcGet s 2 = some (.int s.big) := rfl
theorem sg3 (s : Src) : srcGet s 3 = some (.int s.seed) := rfl
theorem sg4 (s : Src) : srcGet s 4 = some (.int s.cnt) := rfl
theorem sg0 (s : Src) (h : szl s.cells.length) : srcGet s 0 = some (.lst (intsD s.cells)) := by
  unfold srcGet; rw [if_pos rfl, if_pos h]
theorem ss1 (s : Src) (v : Int) : srcSet s 1 v = some { s with at_ := v } := rfl
theorem ss2 (s : Src) (v : Int) : srcSet s 2 v = some { s with big := v } := rfl
theorem ss3 (s : Src) (v : Int) : srcSet s 3 v = some { s with seed := v } := rfl
theorem ss4 (s : Src) (v : Int) : srcSet s 4 v = some { s with cnt := v } := rfl
theorem fmul_int (i j : Int) (μ : Mu) (h : j.natAbs < 18446744073709551616) : fMul (.int i) (.int j) μ = some (.val (.int (i * j)), μ) := by
  simp only [fMul, cmul, decide_eq_true h, Bool.or_true, if_true, Dv.ret]
theorem fmod_int (i j : Int) (μ : Mu) (h : 0 < j) : fMod (.int i) (.int j) μ = some (.val (.int (i % j)), μ) := by
  simp only [fMod, h, if_true, Dv.ret]
theorem fdiv_int (i j : Int) (μ : Mu) (h : 0 < j) (h2 : j < 1073741824) : fDiv (.int i) (.int j) μ = some (.val (.int (i / j)), μ) := by
  simp only [fDiv, h, h2, and_self, if_true, Dv.ret]
theorem fpow_1018 (μ : Mu) : fPow (.int 10) (.int 18) μ = some (.val (.int 1000000000000000000), μ) := by rfl
theorem ix_intsD (l : List Int) (i : Int) (h0 : 0 ≤ i) (h1 : i < l.length) : ∃ x, atI (intsD l) i = some (.int x) ∧ l[i.toNat]? = some x := by
  have hlt : i.toNat < l.length := by omega
  refine ⟨l[i.toNat], ?_, by simp [hlt]⟩
  unfold atI
  have e : ixN (intsD l).length i = some i.toNat := by
    unfold ixN
    rw [List.length_map, if_pos h0, if_pos h1]
  rw [e]
  simp [hlt]
theorem draw_ok (s : Src) (n : Int) (hs : OkS s) (h0 : 0 < n) (h1 : n < 1073741824) : ∃ r s', mDraw [.obj 0, .int n] [.src s] = some (.val (.int r), [.src s']) ∧ 0 ≤ r ∧ r < n ∧ OkS s' := by
  have hz : szl s.cells.length := Nat.le_trans hs.sz (by decide)
  suffices h : ∃ r s' env, bDraw [.v (.obj 0), .v (.int n), .no, .no, .no] [.src s] = some (.val (.ret (.int r)), env, [.src s']) ∧ 0 ≤ r ∧ r < n ∧ OkS s' by
    obtain ⟨r, s', env, e, a, b, c⟩ := h
    exact ⟨r, s', def_ret e rfl, a, b, c⟩
  unfold bDraw
  have hT : (dAndT (dTest (dBin fEq (dBin fIxS (dVar 0) (dC (.int 2))) (dC (.int 0)))) (dTest (dBin (fCmp fun i j => decide (i < j)) (dBin fIxS (dVar 0) (dC (.int 1))) (dCall fLen (dCons (dBin fIxS (dVar 0) (dC (.int 0))) dNil))))) [.v (.obj 0), .v (.int n), .no, .no, .no] [.src s] = some (.val (decide (s.big = 0) && decide (s.at_ < s.cells.length)), [.src s]) := by
    by_cases hb : s.big = 0
    all_goals simp only [dAndT, dTest, fTest, dBin, dC, dVar, bindR, Dv.ret, hold, fIxS, dCall, dCons, dNil, fLen, fCmp, feq_int, List.getElem?_cons_zero, sg1, sg2, sg0 s hz, hb, decide_true, decide_false, Bool.true_and, Bool.false_and, if_true, List.length_map, Bool.false_eq_true, if_false]
  have h2 : ∃ x s1, OkS s1 ∧ (dIfS (dAndT (dTest (dBin fEq (dBin fIxS (dVar 0) (dC (.int 2))) (dC (.int 0)))) (dTest (dBin (fCmp fun i j => decide (i < j)) (dBin fIxS (dVar 0) (dC (.int 1))) (dCall fLen (dCons (dBin fIxS (dVar 0) (dC (.int 0))) dNil))))) (dSeq (dAsg (dBin fIxS (dBin fIxS (dVar 0) (dC (.int 0))) (dBin fIxS (dVar 0) (dC (.int 1)))) (tName 2))
    (dSeq (dSetS (dBin fAdd (dBin fIxS (dVar 0) (dC (.int 1))) (dC (.int 1))) (dVar 0) (dC (.int 1)))
    (dIfS (dTest (dBin (fCmp fun i j => decide (j ≤ i)) (dVar 2) (dBin fPow (dC (.int 10)) (dC (.int 18))))) (dSetS (dVar 2) (dVar 0) (dC (.int 2))) (dSetS (dBin fMod (dCall fInt (dCons (dBin fAdd (dBin fAdd (dBin fMul (dBin fIxS (dVar 0) (dC (.int 3))) (dC (.int 45053))) (dBin fMul (dBin fMod (dCall fInt (dCons (dVar 2) dNil)) (dC (.int 2147483563))) (dC (.int 50033)))) (dC (.int 67))) dNil)) (dC (.int 2147483587))) (dVar 0) (dC (.int 3)))))) dSkip) [.v (.obj 0), .v (.int n), .no, .no, .no] [.src s] = some (.val .nx, [.v (.obj 0), .v (.int n), x, .no, .no], [.src s1]) := by
    by_cases hc : (decide (s.big = 0) && decide (s.at_ < s.cells.length)) = true
    · have hc' : s.big = 0 ∧ s.at_ < s.cells.length := by simpa using hc
      obtain ⟨c, e1, e2⟩ := ix_intsD s.cells s.at_ hs.a0 hc'.2
      by_cases hg : 1000000000000000000 ≤ c
      · refine ⟨.v (.int c), { s with at_ := s.at_ + 1, big := c }, ⟨hs.sz, by have := hs.a0; show 0 ≤ s.at_ + 1; omega, hs.s0, hs.s1⟩, ?_⟩
        refine ifs_t (μ' := [.src s]) (by rw [hT, hc]) ?_
        simp only [dSeq, dIfS, bindS, dSetS, fSetS, dAsg, tName, nobor, fIx, dTest, fTest, dBin, dC, dVar, bindR, Dv.ret, hold, fIxS, dCall, dCons, dNil, fLen, fCmp, fAdd, fpow_1018, List.getElem?_cons_zero, List.getElem?_cons_succ, List.set_cons_zero, List.set_cons_succ, sg1, sg2, sg3, sg4, ss1, ss2, ss3, ss4, sg0 s hz, e1, hg, decide_true, if_true]
      · refine ⟨.v (.int c), { s with at_ := s.at_ + 1, seed := (s.seed * 45053 + c % 2147483563 * 50033 + 67) % 2147483587 }, ⟨hs.sz, by have := hs.a0; show 0 ≤ s.at_ + 1; omega, by show 0 ≤ _ % 2147483587; omega, by show _ % 2147483587 < _; omega⟩, ?_⟩
        refine ifs_t (μ' := [.src s]) (by rw [hT, hc]) ?_
        simp only [dSeq, dIfS, bindS, dSetS, fSetS, dAsg, tName, nobor, fIx, dTest, fTest, dBin, dC, dVar, bindR, Dv.ret, hold, fIxS, dCall, dCons, dNil, fLen, fInt, fCmp, fAdd, fpow_1018, List.getElem?_cons_zero, List.getElem?_cons_succ, List.set_cons_zero, List.set_cons_succ, sg1, sg2, sg3, sg4, ss1, ss2, ss3, ss4, sg0 s hz, e1, hg, decide_true, decide_false, if_true, if_false, Bool.false_eq_true, fmul_int _ 45053 _ (by decide), fmul_int _ 50033 _ (by decide), fmod_int _ 2147483587 _ (by decide), fmod_int _ 2147483563 _ (by decide)]
    · refine ⟨.no, s, hs, ?_⟩
      refine ifs_f (μ' := [.src s]) (by rw [hT, Bool.eq_false_iff.mpr hc]) rfl
  obtain ⟨x, s1, hs1, e1⟩ := h2
  by_cases hb : 0 < s1.big
  · refine ⟨s1.big % n, { s1 with big := s1.big / n }, [.v (.obj 0), .v (.int n), x, .v (.int (s1.big % n)), .no], ?_, Int.emod_nonneg _ (by omega), Int.emod_lt_of_pos _ h0, ⟨hs1.sz, hs1.a0, hs1.s0, hs1.s1⟩⟩
    refine seq_nx e1 (seq_ret (d := .int (s1.big % n)) (ifs_t (μ' := [.src s1]) ?_ ?_))
    · simp only [dTest, fTest, dBin, dC, dVar, bindR, Dv.ret, hold, fIxS, fCmp, List.getElem?_cons_zero, List.getElem?_cons_succ, sg2, hb, decide_true]
    · simp only [dSeq, dRet, unbor, bindS, dSetS, fSetS, dAsg, tName, nobor, dBin, dC, dVar, bindR, Dv.ret, hold, fIxS, dCall, dCons, dNil, fInt, List.getElem?_cons_zero, List.getElem?_cons_succ, List.set_cons_zero, List.set_cons_succ, sg2, ss2, if_true, fmod_int _ n _ h0, fdiv_int _ n _ h0 h1]
  · refine ⟨((s1.seed * s1.seed + s1.seed * 33023 + (s1.cnt + 1) * 1299709 + 85571) % 2147483587 / 71 + (s1.seed * s1.seed + s1.seed * 33023 + (s1.cnt + 1) * 1299709 + 85571) % 2147483587 % 7907 * 59) % n, { s1 with cnt := s1.cnt + 1, seed := (s1.seed * s1.seed + s1.seed * 33023 + (s1.cnt + 1) * 1299709 + 85571) % 2147483587 }, [.v (.obj 0), .v (.int n), x, .no, .v (.int s1.seed)], ?_, ?_, ?_, ⟨hs1.sz, hs1.a0, ?_, ?_⟩⟩
    refine seq_nx e1 (seq_nx (ifs_f (μ' := [.src s1]) (r := some (.val .nx, [.v (.obj 0), .v (.int n), x, .no, .no], [.src s1])) ?_ rfl) ?_)
    · simp only [dTest, fTest, dBin, dC, dVar, bindR, Dv.ret, hold, fIxS, fCmp, List.getElem?_cons_zero, List.getElem?_cons_succ, sg2, hb, decide_false]
    · have q := hs1.s0
      have q2 := hs1.s1
      simp only [dSeq, dRet, unbor, bindS, dSetS, fSetS, dAsg, tName, nobor, dBin, dC, dVar, bindR, Dv.ret, hold, fIxS, dCall, dCons, dNil, fInt, fAdd, List.getElem?_cons_zero, List.getElem?_cons_succ, List.set_cons_zero, List.set_cons_succ, sg3, sg4, ss3, ss4, if_true, fmul_int _ s1.seed _ (by omega), fmul_int _ 33023 _ (by decide), fmul_int _ 1299709 _ (by decide), fmul_int _ 59 _ (by decide), fmod_int _ 2147483587 _ (by decide), fmod_int _ 7907 _ (by decide), fdiv_int _ 71 _ (by decide) (by decide), fmod_int _ n _ h0]
    · exact Int.emod_nonneg _ (by omega)
    · exact Int.emod_lt_of_pos _ h0
    · exact Int.emod_nonneg _ (by decide)
    · exact Int.emod_lt_of_pos _ (by decide)

/-! ### one of several -/
theorem fne_bl (a b : Bool) (μ : Mu) : fNe (.bl a) (.bl b) μ = some (.val (.bl (a != b)), μ) := by
  cases a <;> cases b <;> rfl
theorem feq_bl (a b : Bool) (μ : Mu) : fEq (.bl a) (.bl b) μ = some (.val (.bl (a == b)), μ) := by
  cases a <;> cases b <;> rfl
theorem fne_int (i j : Int) (μ : Mu) : fNe (.int i) (.int j) μ = some (.val (.bl (!decide (i = j))), μ) := by
  simp only [fNe, plainD_int, Bool.and_self, if_true, deq_int, Dv.ret]
theorem atI_of {α : Type} {l : List α} {i : Int} (h0 : 0 ≤ i) (h1 : i < l.length) : atI l i = l[i.toNat]? := by
  unfold atI ixN
  rw [if_pos h0, if_pos h1]; rfl
theorem of_ok (s : Src) (l : List D) (hs : OkS s) (hl : 0 < l.length) (hz : l.length ≤ 1000) (hn : ∀ d ∈ l, nobor d = true) (hn2 : ∀ d ∈ l, unbor d = d) : ∃ d s', d ∈ l ∧ mOf [.obj 0, .lst l] [.src s] = some (.val d, [.src s']) ∧ OkS s' := by
  obtain ⟨r, s', e, r0, r1, ho⟩ := draw_ok s l.length hs (by omega) (by omega)
  have hr : r.toNat < l.length := by omega
  refine ⟨l[r.toNat], s', List.getElem_mem hr, ?_, ho⟩
  refine def_ret (env := [.v (.obj 0), .v (.lst l)]) ?_ (hn _ (List.getElem_mem hr))
  show bOf [.v (.obj 0), .v (.lst l)] [.src s] = _
  have e2 : atI l r = some l[r.toNat] := by rw [atI_of r0 r1]; simp [hr]
  simp only [bOf, dRet, bindS, dBin, dVar, dCall, dCons, dNil, fLen, bindR, Dv.ret, hold, List.getElem?_cons_zero, List.getElem?_cons_succ, fCall, List.length_cons, List.length_nil, List.all_cons, List.all_nil, nobor, Bool.and_self, and_self, if_true, e, fIxS, fIx, e2, hn2 _ (List.getElem_mem hr), Nat.zero_add, Nat.reduceAdd]
end Dv

/-! DvR: rows of ints, likeness. -/
namespace Dv
open PySem PySem.Spec PyProof.Rows L2
/-! ### like -/
def lkD : Nat → D → Bool
  | _, .non => true
  | _, .bl _ => true
  | _, .int _ => true
  | _, .str x => PyData.strOk x
  | n + 1, .tup l => l.all (lkD n)
  | n + 1, .lst l => l.all (lkD n)
  | _, _ => false
theorem lk_nobor {n : Nat} {d : D} (h : lkD n d = true) : nobor d = true := by
  cases d <;> first | rfl | (cases n <;> simp [lkD] at h)
theorem lk_hold {n : Nat} {d : D} (h : lkD n d = true) : hold d = d := by
  cases d <;> first | rfl | (cases n <;> simp [lkD] at h)
theorem zip_self (l : List D) : List.zipWith pairD l l = l.map fun d => pairD d d := by
  induction l with
  | nil => rfl
  | cons a l ih => simp [ih]
theorem asBls_true (l : List D) : asBls (l.map fun _ => D.bl true) = some (l.map fun _ => true) := by
  induction l with
  | nil => rfl
  | cons a l ih =>
    simp only [List.map_cons]
    unfold asBls
    rw [ih]; rfl
theorem asBls_bls (l : List Bool) : asBls (l.map D.bl) = some l := by
  induction l with
  | nil => rfl
  | cons a l ih =>
    simp only [List.map_cons]
    unfold asBls
    rw [ih]; rfl
theorem isi_tup_l (l : List D) (μ : Mu) : fIsi [.tup l, .ty "list"] μ = some (.val (.bl false), μ) := by rfl
theorem isi_tup_t (l : List D) (μ : Mu) : fIsi [.tup l, .ty "tuple"] μ = some (.val (.bl true), μ) := by rfl
theorem isi_lst_l (l : List D) (μ : Mu) : fIsi [.lst l, .ty "list"] μ = some (.val (.bl true), μ) := by rfl
theorem isi_lst_t (l : List D) (μ : Mu) : fIsi [.lst l, .ty "tuple"] μ = some (.val (.bl false), μ) := by rfl
theorem isi_tup_b (l : List D) (μ : Mu) : fIsi [.tup l, .tup [.ty "list", .ty "tuple"]] μ = some (.val (.bl true), μ) := by rfl
theorem isi_lst_b (l : List D) (μ : Mu) : fIsi [.lst l, .tup [.ty "list", .ty "tuple"]] μ = some (.val (.bl true), μ) := by rfl
theorem isi_non_b (μ : Mu) : fIsi [.non, .tup [.ty "list", .ty "tuple"]] μ = some (.val (.bl false), μ) := by rfl
theorem isi_bl_b (b : Bool) (μ : Mu) : fIsi [.bl b, .tup [.ty "list", .ty "tuple"]] μ = some (.val (.bl false), μ) := by rfl
theorem isi_int_b (b : Int) (μ : Mu) : fIsi [.int b, .tup [.ty "list", .ty "tuple"]] μ = some (.val (.bl false), μ) := by rfl
theorem isi_str_b (b : Str) (μ : Mu) : fIsi [.str b, .tup [.ty "list", .ty "tuple"]] μ = some (.val (.bl false), μ) := by rfl
theorem isi_bl (b : Bool) (μ : Mu) (t : String) (ht : t = "int" ∨ t = "bool" ∨ t = "str") : fIsi [.bl b, .ty t] μ = some (.val (.bl (decide (t ≠ "str"))), μ) := by
  rcases ht with rfl | rfl | rfl <;> rfl
theorem isi_int (b : Int) (μ : Mu) (t : String) (ht : t = "int" ∨ t = "bool" ∨ t = "str") : fIsi [.int b, .ty t] μ = some (.val (.bl (decide (t = "int"))), μ) := by
  rcases ht with rfl | rfl | rfl <;> rfl
theorem isi_str (b : Str) (μ : Mu) (t : String) (ht : t = "int" ∨ t = "bool" ∨ t = "str") : fIsi [.str b, .ty t] μ = some (.val (.bl (decide (t = "str"))), μ) := by
  rcases ht with rfl | rfl | rfl <;> rfl
theorem feq_bl_self (a : Bool) (μ : Mu) : fEq (.bl a) (.bl a) μ = some (.val (.bl true), μ) := by cases a <;> rfl
theorem fne_bl_self (a : Bool) (μ : Mu) : fNe (.bl a) (.bl a) μ = some (.val (.bl false), μ) := by cases a <;> rfl
theorem deq_str (x : Str) : deq (.str x) (.str x) = true := by
  simp [deq, toPy, PyData.eqv]
theorem feq_str_self (x : Str) (h : PyData.strOk x = true) (μ : Mu) : fEq (.str x) (.str x) μ = some (.val (.bl true), μ) := by
  have hp : plainD 60 (.str x) = true := by unfold plainD; exact h
  simp only [fEq, hp, Bool.and_self, if_true, deq_str, Dv.ret]
theorem like_seq {x y : SV} {n : Nat} {l : List D} {μ : Mu} (hn : ∀ d ∈ l, nobor d = true) (hh : ∀ d ∈ l, hold d = d) (ih : ∀ d ∈ l, mLike n [d, d] μ = some (.val (.bl true), μ)) :
    lcRun (Dv.tTup 2 (tsCons (tName 2) (tsCons (tName 3) tsNil))) dYes (dCall (fCall 2 (mLike n)) (dCons (dVar 2) (dCons (dVar 3) dNil))) [x, y, .no, .no] (List.zipWith pairD l l) μ = some (l.map fun _ => .bl true, μ) := by
  rw [zip_self, lc_map (fun d => pairD d d) (fun _ => .bl true)]
  · rfl
  · intro d hd
    refine ⟨[x, y, .v d, .v d], rfl, rfl, ?_, rfl⟩
    simp only [dCall, dCons, dNil, dVar, bindR, Dv.ret, hh d hd, List.getElem?_cons_zero, List.getElem?_cons_succ, fCall, List.length_cons, List.length_nil, List.all_cons, List.all_nil, hn d hd, Bool.and_self, and_self, if_true, ih d hd, Nat.zero_add, Nat.reduceAdd]
/-- what is like itself -/
theorem like_refl {μ : Mu} : ∀ (n : Nat) (d : D), lkD n d = true → mLike (n + 1) [d, d] μ = some (.val (.bl true), μ) := by
  intro n
  induction n with
  | zero => ?_
  | succ n ih => ?_
  all_goals intro d hd
  all_goals refine def_ret (env := [.v d, .v d, .no, .no]) ?_ rfl
  all_goals show bLike _ [.v d, .v d, .no, .no] μ = _
  all_goals cases d
  all_goals try (simp [lkD] at hd; done)
  all_goals try simp (decide := true) only [bLike, dSeq, dIfS, dRet, dSkip, unbor, bindS, dTest, fTest, dBin, dC, dVar, dOrT, dAndV, bindR, Dv.ret, hold, dCall, dCons, dNil, dTup, fTup, List.all_cons, List.all_nil, nobor, Bool.and_self, and_self, if_true, List.length_cons, List.length_nil, List.getElem?_cons_zero, List.getElem?_cons_succ, isi_non_b, isi_bl_b, isi_int_b, isi_str_b, fIs, isNon, bne_self_eq_false, isi_bl _ _ "bool" (.inr (.inl rfl)), isi_bl _ _ "int" (.inl rfl), isi_bl _ _ "str" (.inr (.inr rfl)), isi_int _ _ "bool" (.inr (.inl rfl)), isi_int _ _ "int" (.inl rfl), isi_int _ _ "str" (.inr (.inr rfl)), isi_str _ _ "bool" (.inr (.inl rfl)), isi_str _ _ "int" (.inl rfl), isi_str _ _ "str" (.inr (.inr rfl)), fne_bl_self, feq_bl_self, feq_int, decide_true, Bool.false_eq_true, if_false, Bool.false_bne]
  case zero.str x => rw [feq_str_self x (by simpa [lkD] using hd)]
  case succ.str x => rw [feq_str_self x (by simpa [lkD] using hd)]
  case succ.tup l =>
    have hl : ∀ d ∈ l, lkD n d = true := List.all_eq_true.mp (by simpa [lkD] using hd)
    have hc : dLc (dArg fZip (dCons (dVar 0) (dCons (dVar 1) dNil))) [2, 3] (Dv.tTup 2 (tsCons (tName 2) (tsCons (tName 3) tsNil))) dYes (dCall (fCall 2 (mLike (n + 1))) (dCons (dVar 2) (dCons (dVar 3) dNil))) [.v (.tup l), .v (.tup l), .no, .no] μ = some (.val (.new (l.map fun _ => .bl true)), μ) :=
      dLc_of rfl rfl (like_seq (fun d hd => lk_nobor (hl d hd)) (fun d hd => lk_hold (hl d hd)) fun d hd => ih d (hl d hd))
    have ha : fAll [.lst (l.map fun _ => .bl true)] μ = some (.val (.bl true), μ) := by
      have e : (l.map fun _ => true).all id = true := by rw [List.all_map]; exact List.all_eq_true.mpr fun _ _ => rfl
      simp only [fAll, seqL, asBls_true, e, Dv.ret]
    simp (decide := true) only [isi_tup_b, isi_tup_l, isi_tup_t, hc, ha, fne_bl_self, feq_int, decide_true, if_true, Bool.false_eq_true, if_false, fLen, List.getElem?_cons_zero, List.getElem?_cons_succ, hold]
  case succ.lst l =>
    have hl : ∀ d ∈ l, lkD n d = true := List.all_eq_true.mp (by simpa [lkD] using hd)
    have hc : dLc (dArg fZip (dCons (dVar 0) (dCons (dVar 1) dNil))) [2, 3] (Dv.tTup 2 (tsCons (tName 2) (tsCons (tName 3) tsNil))) dYes (dCall (fCall 2 (mLike (n + 1))) (dCons (dVar 2) (dCons (dVar 3) dNil))) [.v (.lst l), .v (.lst l), .no, .no] μ = some (.val (.new (l.map fun _ => .bl true)), μ) :=
      dLc_of rfl rfl (like_seq (fun d hd => lk_nobor (hl d hd)) (fun d hd => lk_hold (hl d hd)) fun d hd => ih d (hl d hd))
    have ha : fAll [.lst (l.map fun _ => .bl true)] μ = some (.val (.bl true), μ) := by
      have e : (l.map fun _ => true).all id = true := by rw [List.all_map]; exact List.all_eq_true.mpr fun _ _ => rfl
      simp only [fAll, seqL, asBls_true, e, Dv.ret]
    simp (decide := true) only [isi_lst_b, isi_lst_l, isi_lst_t, hc, ha, fne_bl_self, feq_int, decide_true, if_true, Bool.false_eq_true, if_false, fLen, List.getElem?_cons_zero, List.getElem?_cons_succ, hold]
end Dv

/-! DvS: what the helpers of rows answer. -/
namespace Dv
open PySem PySem.Spec PyProof.Rows L2
theorem hold_new (l : List D) : hold (.new l) = .lst l := rfl
theorem hold_lst (l : List D) : hold (.lst l) = .lst l := rfl
theorem hold_tup (l : List D) : hold (.tup l) = .tup l := rfl
theorem hold_bor (l : List D) : hold (.bor l) = .bor l := rfl
theorem hold_int (i : Int) : hold (.int i) = .int i := rfl
theorem hold_bl (i : Bool) : hold (.bl i) = .bl i := rfl
theorem hold_str (i : Str) : hold (.str i) = .str i := rfl
theorem hold_obj (i : Nat) : hold (.obj i) = .obj i := rfl
theorem hold_ty (i : String) : hold (.ty i) = .ty i := rfl
theorem hold_non : hold .non = .non := rfl
theorem nobor_new (l : List D) : nobor (.new l) = true := rfl
theorem nobor_lst (l : List D) : nobor (.lst l) = true := rfl
theorem nobor_tup (l : List D) : nobor (.tup l) = true := rfl
theorem nobor_int (i : Int) : nobor (.int i) = true := rfl
theorem nobor_bl (i : Bool) : nobor (.bl i) = true := rfl
theorem nobor_str (i : Str) : nobor (.str i) = true := rfl
theorem nobor_obj (i : Nat) : nobor (.obj i) = true := rfl
theorem nobor_ty (i : String) : nobor (.ty i) = true := rfl
theorem nobor_non : nobor .non = true := rfl
theorem intsD_of {P : Int → Prop} : ∀ {xs : List D}, (∀ d ∈ xs, ∃ x, d = .int x ∧ P x) → ∃ l, xs = intsD l ∧ ∀ x ∈ l, P x
  | [], _ => ⟨[], rfl, fun _ h => absurd h List.not_mem_nil⟩
  | d :: xs, h => by
    obtain ⟨x, rfl, hx⟩ := h d List.mem_cons_self
    obtain ⟨l, rfl, hl⟩ := intsD_of fun d hd => h d (List.mem_cons_of_mem _ hd)
    exact ⟨x :: l, rfl, fun y hy => (List.mem_cons.mp hy).elim (fun e => e ▸ hx) (hl y)⟩
theorem range1_ (n : Int) (μ : Mu) (h0 : 0 ≤ n) (h1 : n ≤ 16777216) : fRange1 [.int n] μ = some (.val (rangeD 0 n), μ) := by
  have a : small62 n = true := by unfold small62; simp; omega
  have b : szl (n - 0).toNat := by show _ ≤ _; omega
  simp only [fRange1, a, b, and_self, if_true, Dv.ret]
theorem range2_ (m n : Int) (μ : Mu) (h0 : 0 ≤ m) (h : m ≤ 16777216) (h2 : 0 ≤ n) (h1 : n ≤ 16777216) : fRange2 [.int m, .int n] μ = some (.val (rangeD m n), μ) := by
  have a : small62 n = true := by unfold small62; simp; omega
  have c : small62 m = true := by unfold small62; simp; omega
  have b : szl (n - m).toNat := by show _ ≤ _; omega
  simp only [fRange2, a, b, c, and_self, if_true, Dv.ret]
theorem mem_rangeD {m n : Int} {d : D} (h : d ∈ rangeD m n) : ∃ i : Int, d = .int i ∧ m ≤ i ∧ i < n := by
  unfold rangeD at h
  obtain ⟨i, hi, rfl⟩ := List.mem_map.mp h
  have := List.mem_range.mp hi
  exact ⟨m + i, rfl, by omega, by omega⟩
theorem row_ok (s : Src) (p n : Int) (hs : OkS s) (h0 : 0 < p) (h1 : p < 1073741824) (n0 : 0 ≤ n) (n1 : n ≤ 1000) :
    ∃ l s', mRow [.obj 0, .int p, .int n] [.src s] = some (.val (tupI l), [.src s']) ∧ (l.length : Int) = n ∧ (∀ x ∈ l, 0 ≤ x ∧ x < p) ∧ OkS s' := by
  obtain ⟨xs, μ', e1, e2, ⟨s', rfl, hs'⟩, e4⟩ := lc_inv (tg := tName 3) (tt := dYes) (el := dCall (fCall 2 mDraw) (dCons (dVar 0) (dCons (dVar 1) dNil))) (env := [.v (.obj 0), .v (.int p), .v (.int n), .no])
    (fun μ => ∃ s, μ = [.src s] ∧ OkS s) (fun d => ∃ x, d = .int x ∧ 0 ≤ x ∧ x < p) (rangeD 0 n) (fun d hd μ ⟨s, e, hs⟩ => by
      subst e
      obtain ⟨r, s', e, a, b, c⟩ := draw_ok s p hs h0 h1
      refine ⟨[.v (.obj 0), .v (.int p), .v (.int n), .v d], .int r, [.src s'], rfl, rfl, ?_, rfl, ⟨s', rfl, c⟩, r, rfl, a, b⟩
      simp (decide := true) only [dSeq, dIfS, dRet, dSkip, dAsg, tName, unbor, bindS, dTest, fTest, dBin, dC, dVar, dNotT, dAndT, dOrT, dAndV, dOrV, dIf, bindR, Dv.ret, hold_new, hold_int, hold_bl, hold_tup, hold_lst, hold_obj, hold_str, hold_non, hold_ty, hold_bor, dCall, dCons, dNil, dIter, fIter, dArg, nobor_new, nobor_int, nobor_bl, nobor_tup, nobor_lst, nobor_obj, nobor_str, nobor_non, nobor_ty, Bool.and_self, and_self, if_true, if_false, Bool.false_eq_true, Bool.not_true, Bool.not_false, List.all_cons, List.all_nil, List.length_cons, List.length_nil, Nat.zero_add, Nat.reduceAdd, List.getElem?_cons_zero, List.getElem?_cons_succ, List.set_cons_zero, List.set_cons_succ, fCall, decide_true, decide_false, e]) [.src s] ⟨s, rfl, hs⟩
  obtain ⟨l, rfl, hl⟩ := intsD_of e4
  refine ⟨l, s', def_ret (env := [.v (.obj 0), .v (.int p), .v (.int n), .no]) ?_ rfl, ?_, hl, hs'⟩
  · show bRow [.v (.obj 0), .v (.int p), .v (.int n), .no] _ = _
    have hc := dLc_of (it := dArg fRange1 (dCons (dVar 2) dNil)) (own := [3]) (env := [.v (.obj 0), .v (.int p), .v (.int n), .no]) (μ := [.src s]) rfl (by
      simp (decide := true) only [dSeq, dIfS, dRet, dSkip, dAsg, tName, unbor, bindS, dTest, fTest, dBin, dC, dVar, dNotT, dAndT, dOrT, dAndV, dOrV, dIf, bindR, Dv.ret, hold_new, hold_int, hold_bl, hold_tup, hold_lst, hold_obj, hold_str, hold_non, hold_ty, hold_bor, dCall, dCons, dNil, dIter, fIter, dArg, nobor_new, nobor_int, nobor_bl, nobor_tup, nobor_lst, nobor_obj, nobor_str, nobor_non, nobor_ty, Bool.and_self, and_self, if_true, if_false, Bool.false_eq_true, Bool.not_true, Bool.not_false, List.all_cons, List.all_nil, List.length_cons, List.length_nil, Nat.zero_add, Nat.reduceAdd, List.getElem?_cons_zero, List.getElem?_cons_succ, List.set_cons_zero, List.set_cons_succ, fCall, decide_true, decide_false, range1_ n _ n0 (by omega)]) e1
    simp (decide := true) only [bRow, hc, dSeq, dIfS, dRet, dSkip, dAsg, tName, unbor, bindS, dTest, fTest, dBin, dC, dVar, dNotT, dAndT, dOrT, dAndV, dOrV, dIf, bindR, Dv.ret, hold_new, hold_int, hold_bl, hold_tup, hold_lst, hold_obj, hold_str, hold_non, hold_ty, hold_bor, dCall, dCons, dNil, dIter, fIter, dArg, nobor_new, nobor_int, nobor_bl, nobor_tup, nobor_lst, nobor_obj, nobor_str, nobor_non, nobor_ty, Bool.and_self, and_self, if_true, if_false, Bool.false_eq_true, Bool.not_true, Bool.not_false, List.all_cons, List.all_nil, List.length_cons, List.length_nil, Nat.zero_add, Nat.reduceAdd, List.getElem?_cons_zero, List.getElem?_cons_succ, List.set_cons_zero, List.set_cons_succ, fCall, decide_true, decide_false, fTuple]
  · rw [List.length_map, rangeD_len] at e2; omega
theorem seqD_hold {X : D} {l : List D} (h : seqD X = some l) : hold X = X ∧ nobor X = true ∧ fIter X = fun μ => some (.val l, μ) := by
  cases X <;> first | cases h; exact ⟨rfl, rfl, rfl⟩ | cases h
theorem fzip_ {X Y : D} {xs ys : List Int} {μ : Mu} (hX : seqD X = some (intsD xs)) (hY : seqD Y = some (intsD ys)) : fZip [X, Y] μ = some (.val ((xs.zip ys).map fun q => pairD (.int q.1) (.int q.2)), μ) := by
  simp only [fZip, hX, hY, Dv.ret, zip_ints]
theorem added_ok {X Y : D} {xs ys : List Int} {p : Int} {μ : Mu} (hX : seqD X = some (intsD xs)) (hY : seqD Y = some (intsD ys)) (hp : 0 < p) :
    mAdded [X, Y, .int p] μ = some (.val (tupI ((xs.zip ys).map fun q => (q.1 + q.2) % p)), μ) := by
  refine def_ret (env := [.v X, .v Y, .v (.int p), .no, .no]) ?_ rfl
  show bAdded [.v X, .v Y, .v (.int p), .no, .no] μ = _
  have hc := dLc_of (it := dArg fZip (dCons (dVar 0) (dCons (dVar 1) dNil))) (own := [3, 4]) (env := [.v X, .v Y, .v (.int p), .no, .no]) (μ := μ) rfl (by
      simp (decide := true) only [dSeq, dIfS, dRet, dSkip, dAsg, tName, unbor, bindS, dTest, fTest, dBin, dC, dVar, dNotT, dAndT, dOrT, dAndV, dOrV, dIf, bindR, Dv.ret, hold_new, hold_int, hold_bl, hold_tup, hold_lst, hold_obj, hold_str, hold_non, hold_ty, hold_bor, dCall, dCons, dNil, dIter, fIter, dArg, nobor_new, nobor_int, nobor_bl, nobor_tup, nobor_lst, nobor_obj, nobor_str, nobor_non, nobor_ty, Bool.and_self, and_self, if_true, if_false, Bool.false_eq_true, Bool.not_true, Bool.not_false, List.all_cons, List.all_nil, List.length_cons, List.length_nil, Nat.zero_add, Nat.reduceAdd, List.getElem?_cons_zero, List.getElem?_cons_succ, List.set_cons_zero, List.set_cons_succ, fCall, decide_true, decide_false, (seqD_hold hX).1, (seqD_hold hY).1, fzip_ hX hY]) (lc_map (fun q : Int × Int => pairD (.int q.1) (.int q.2)) (fun q => .int ((q.1 + q.2) % p)) (xs.zip ys) (tt := dYes) (tg := Dv.tTup 2 (tsCons (tName 3) (tsCons (tName 4) tsNil))) (el := dBin fMod (dBin fAdd (dVar 3) (dVar 4)) (dVar 2)) (μ := μ) (fun q hq => by
        refine ⟨[.v X, .v Y, .v (.int p), .v (.int q.1), .v (.int q.2)], rfl, rfl, ?_, rfl⟩
        simp (decide := true) only [dSeq, dIfS, dRet, dSkip, dAsg, tName, unbor, bindS, dTest, fTest, dBin, dC, dVar, dNotT, dAndT, dOrT, dAndV, dOrV, dIf, bindR, Dv.ret, hold_new, hold_int, hold_bl, hold_tup, hold_lst, hold_obj, hold_str, hold_non, hold_ty, hold_bor, dCall, dCons, dNil, dIter, fIter, dArg, nobor_new, nobor_int, nobor_bl, nobor_tup, nobor_lst, nobor_obj, nobor_str, nobor_non, nobor_ty, Bool.and_self, and_self, if_true, if_false, Bool.false_eq_true, Bool.not_true, Bool.not_false, List.all_cons, List.all_nil, List.length_cons, List.length_nil, Nat.zero_add, Nat.reduceAdd, List.getElem?_cons_zero, List.getElem?_cons_succ, List.set_cons_zero, List.set_cons_succ, fCall, decide_true, decide_false, fAdd, fmod_int _ _ _ hp]))
  simp (decide := true) only [bAdded, hc, dSeq, dIfS, dRet, dSkip, dAsg, tName, unbor, bindS, dTest, fTest, dBin, dC, dVar, dNotT, dAndT, dOrT, dAndV, dOrV, dIf, bindR, Dv.ret, hold_new, hold_int, hold_bl, hold_tup, hold_lst, hold_obj, hold_str, hold_non, hold_ty, hold_bor, dCall, dCons, dNil, dIter, fIter, dArg, nobor_new, nobor_int, nobor_bl, nobor_tup, nobor_lst, nobor_obj, nobor_str, nobor_non, nobor_ty, Bool.and_self, and_self, if_true, if_false, Bool.false_eq_true, Bool.not_true, Bool.not_false, List.all_cons, List.all_nil, List.length_cons, List.length_nil, Nat.zero_add, Nat.reduceAdd, List.getElem?_cons_zero, List.getElem?_cons_succ, List.set_cons_zero, List.set_cons_succ, fCall, decide_true, decide_false, fTuple, tupI, intsD, List.map_map, Function.comp_def]
theorem sum_ok {X Y : D} {xs ys : List Int} {p f : Int} {μ : Mu} (hX : seqD X = some (intsD xs)) (hY : seqD Y = some (intsD ys)) (hp : 0 < p) (hf : ∀ y ∈ ys, 0 ≤ y ∧ y < 1000000) :
    mSum [.int p, X, Y, .int f] μ = some (.val (tupI ((xs.zip ys).map fun q => (q.1 + f * q.2) % p)), μ) := by
  refine def_ret (env := [.v (.int p), .v X, .v Y, .v (.int f), .no, .no]) ?_ rfl
  show bSum [.v (.int p), .v X, .v Y, .v (.int f), .no, .no] μ = _
  have hc := dLc_of (it := dArg fZip (dCons (dVar 1) (dCons (dVar 2) dNil))) (own := [4, 5]) (env := [.v (.int p), .v X, .v Y, .v (.int f), .no, .no]) (μ := μ) rfl (by
      simp (decide := true) only [dSeq, dIfS, dRet, dSkip, dAsg, tName, unbor, bindS, dTest, fTest, dBin, dC, dVar, dNotT, dAndT, dOrT, dAndV, dOrV, dIf, bindR, Dv.ret, hold_new, hold_int, hold_bl, hold_tup, hold_lst, hold_obj, hold_str, hold_non, hold_ty, hold_bor, dCall, dCons, dNil, dIter, fIter, dArg, nobor_new, nobor_int, nobor_bl, nobor_tup, nobor_lst, nobor_obj, nobor_str, nobor_non, nobor_ty, Bool.and_self, and_self, if_true, if_false, Bool.false_eq_true, Bool.not_true, Bool.not_false, List.all_cons, List.all_nil, List.length_cons, List.length_nil, Nat.zero_add, Nat.reduceAdd, List.getElem?_cons_zero, List.getElem?_cons_succ, List.set_cons_zero, List.set_cons_succ, fCall, decide_true, decide_false, (seqD_hold hX).1, (seqD_hold hY).1, fzip_ hX hY]) (lc_map (fun q : Int × Int => pairD (.int q.1) (.int q.2)) (fun q => .int ((q.1 + f * q.2) % p)) (xs.zip ys) (tt := dYes) (tg := Dv.tTup 2 (tsCons (tName 4) (tsCons (tName 5) tsNil))) (el := dBin fMod (dCall fInt (dCons (dBin fAdd (dVar 4) (dBin fMul (dVar 3) (dVar 5))) dNil)) (dVar 0)) (μ := μ) (fun q hq => by
        have hy := hf _ (List.of_mem_zip hq).2
        refine ⟨[.v (.int p), .v X, .v Y, .v (.int f), .v (.int q.1), .v (.int q.2)], rfl, rfl, ?_, rfl⟩
        simp (decide := true) only [dSeq, dIfS, dRet, dSkip, dAsg, tName, unbor, bindS, dTest, fTest, dBin, dC, dVar, dNotT, dAndT, dOrT, dAndV, dOrV, dIf, bindR, Dv.ret, hold_new, hold_int, hold_bl, hold_tup, hold_lst, hold_obj, hold_str, hold_non, hold_ty, hold_bor, dCall, dCons, dNil, dIter, fIter, dArg, nobor_new, nobor_int, nobor_bl, nobor_tup, nobor_lst, nobor_obj, nobor_str, nobor_non, nobor_ty, Bool.and_self, and_self, if_true, if_false, Bool.false_eq_true, Bool.not_true, Bool.not_false, List.all_cons, List.all_nil, List.length_cons, List.length_nil, Nat.zero_add, Nat.reduceAdd, List.getElem?_cons_zero, List.getElem?_cons_succ, List.set_cons_zero, List.set_cons_succ, fCall, decide_true, decide_false, fAdd, fInt, fmul_int _ q.2 _ (by omega), fmod_int _ _ _ hp]))
  simp (decide := true) only [bSum, hc, dSeq, dIfS, dRet, dSkip, dAsg, tName, unbor, bindS, dTest, fTest, dBin, dC, dVar, dNotT, dAndT, dOrT, dAndV, dOrV, dIf, bindR, Dv.ret, hold_new, hold_int, hold_bl, hold_tup, hold_lst, hold_obj, hold_str, hold_non, hold_ty, hold_bor, dCall, dCons, dNil, dIter, fIter, dArg, nobor_new, nobor_int, nobor_bl, nobor_tup, nobor_lst, nobor_obj, nobor_str, nobor_non, nobor_ty, Bool.and_self, and_self, if_true, if_false, Bool.false_eq_true, Bool.not_true, Bool.not_false, List.all_cons, List.all_nil, List.length_cons, List.length_nil, Nat.zero_add, Nat.reduceAdd, List.getElem?_cons_zero, List.getElem?_cons_succ, List.set_cons_zero, List.set_cons_succ, fCall, decide_true, decide_false, fTuple, tupI, intsD, List.map_map, Function.comp_def]
theorem multiplied_ok {X : D} {xs : List Int} {p f : Int} {μ : Mu} (hX : seqD X = some (intsD xs)) (hp : 0 < p) (h0 : 0 ≤ f) (h1 : f < 1000000) :
    mMultiplied [X, .int f, .int p] μ = some (.val (tupI (xs.map fun x => x * f % p)), μ) := by
  refine def_ret (env := [.v X, .v (.int f), .v (.int p), .no]) ?_ rfl
  show bMultiplied [.v X, .v (.int f), .v (.int p), .no] μ = _
  have hc := dLc_of (it := dIter (dVar 0)) (own := [3]) (env := [.v X, .v (.int f), .v (.int p), .no]) (μ := μ) rfl (by
      simp (decide := true) only [dSeq, dIfS, dRet, dSkip, dAsg, tName, unbor, bindS, dTest, fTest, dBin, dC, dVar, dNotT, dAndT, dOrT, dAndV, dOrV, dIf, bindR, Dv.ret, hold_new, hold_int, hold_bl, hold_tup, hold_lst, hold_obj, hold_str, hold_non, hold_ty, hold_bor, dCall, dCons, dNil, dIter, dArg, nobor_new, nobor_int, nobor_bl, nobor_tup, nobor_lst, nobor_obj, nobor_str, nobor_non, nobor_ty, Bool.and_self, and_self, if_true, if_false, Bool.false_eq_true, Bool.not_true, Bool.not_false, List.all_cons, List.all_nil, List.length_cons, List.length_nil, Nat.zero_add, Nat.reduceAdd, List.getElem?_cons_zero, List.getElem?_cons_succ, List.set_cons_zero, List.set_cons_succ, fCall, decide_true, decide_false, (seqD_hold hX).2.2]) (lc_map D.int (fun x => .int (x * f % p)) xs (tt := dYes) (tg := tName 3) (el := dBin fMod (dBin fMul (dVar 3) (dVar 1)) (dVar 2)) (μ := μ) (fun q hq => by
        refine ⟨[.v X, .v (.int f), .v (.int p), .v (.int q)], rfl, rfl, ?_, rfl⟩
        simp (decide := true) only [dSeq, dIfS, dRet, dSkip, dAsg, tName, unbor, bindS, dTest, fTest, dBin, dC, dVar, dNotT, dAndT, dOrT, dAndV, dOrV, dIf, bindR, Dv.ret, hold_new, hold_int, hold_bl, hold_tup, hold_lst, hold_obj, hold_str, hold_non, hold_ty, hold_bor, dCall, dCons, dNil, dIter, fIter, dArg, nobor_new, nobor_int, nobor_bl, nobor_tup, nobor_lst, nobor_obj, nobor_str, nobor_non, nobor_ty, Bool.and_self, and_self, if_true, if_false, Bool.false_eq_true, Bool.not_true, Bool.not_false, List.all_cons, List.all_nil, List.length_cons, List.length_nil, Nat.zero_add, Nat.reduceAdd, List.getElem?_cons_zero, List.getElem?_cons_succ, List.set_cons_zero, List.set_cons_succ, fCall, decide_true, decide_false, fmul_int _ f _ (by omega), fmod_int _ _ _ hp]))
  simp (decide := true) only [bMultiplied, hc, dSeq, dIfS, dRet, dSkip, dAsg, tName, unbor, bindS, dTest, fTest, dBin, dC, dVar, dNotT, dAndT, dOrT, dAndV, dOrV, dIf, bindR, Dv.ret, hold_new, hold_int, hold_bl, hold_tup, hold_lst, hold_obj, hold_str, hold_non, hold_ty, hold_bor, dCall, dCons, dNil, dIter, fIter, dArg, nobor_new, nobor_int, nobor_bl, nobor_tup, nobor_lst, nobor_obj, nobor_str, nobor_non, nobor_ty, Bool.and_self, and_self, if_true, if_false, Bool.false_eq_true, Bool.not_true, Bool.not_false, List.all_cons, List.all_nil, List.length_cons, List.length_nil, Nat.zero_add, Nat.reduceAdd, List.getElem?_cons_zero, List.getElem?_cons_succ, List.set_cons_zero, List.set_cons_succ, fCall, decide_true, decide_false, fTuple, tupI, intsD, List.map_map, Function.comp_def]
theorem value_ok {X Y : D} {xs ys : List Int} {p : Int} {μ : Mu} (hX : seqD X = some (intsD xs)) (hY : seqD Y = some (intsD ys)) (hp : 0 < p) (hf : ∀ y ∈ ys, 0 ≤ y ∧ y < 1000000) :
    mValue [X, Y, .int p] μ = some (.val (.int (((xs.zip ys).map fun q => q.1 * q.2).sum % p)), μ) := by
  refine def_ret (env := [.v X, .v Y, .v (.int p), .no, .no]) ?_ rfl
  show bValue [.v X, .v Y, .v (.int p), .no, .no] μ = _
  have hc := dLc_of (it := dArg fZip (dCons (dVar 0) (dCons (dVar 1) dNil))) (own := [3, 4]) (env := [.v X, .v Y, .v (.int p), .no, .no]) (μ := μ) rfl (by
      simp (decide := true) only [dSeq, dIfS, dRet, dSkip, dAsg, tName, unbor, bindS, dTest, fTest, dBin, dC, dVar, dNotT, dAndT, dOrT, dAndV, dOrV, dIf, bindR, Dv.ret, hold_new, hold_int, hold_bl, hold_tup, hold_lst, hold_obj, hold_str, hold_non, hold_ty, hold_bor, dCall, dCons, dNil, dIter, fIter, dArg, nobor_new, nobor_int, nobor_bl, nobor_tup, nobor_lst, nobor_obj, nobor_str, nobor_non, nobor_ty, Bool.and_self, and_self, if_true, if_false, Bool.false_eq_true, Bool.not_true, Bool.not_false, List.all_cons, List.all_nil, List.length_cons, List.length_nil, Nat.zero_add, Nat.reduceAdd, List.getElem?_cons_zero, List.getElem?_cons_succ, List.set_cons_zero, List.set_cons_succ, fCall, decide_true, decide_false, (seqD_hold hX).1, (seqD_hold hY).1, fzip_ hX hY]) (lc_map (fun q : Int × Int => pairD (.int q.1) (.int q.2)) (fun q => .int (q.1 * q.2)) (xs.zip ys) (tt := dYes) (tg := Dv.tTup 2 (tsCons (tName 3) (tsCons (tName 4) tsNil))) (el := dBin fMul (dVar 3) (dVar 4)) (μ := μ) (fun q hq => by
        have hy := hf _ (List.of_mem_zip hq).2
        refine ⟨[.v X, .v Y, .v (.int p), .v (.int q.1), .v (.int q.2)], rfl, rfl, ?_, rfl⟩
        simp (decide := true) only [dSeq, dIfS, dRet, dSkip, dAsg, tName, unbor, bindS, dTest, fTest, dBin, dC, dVar, dNotT, dAndT, dOrT, dAndV, dOrV, dIf, bindR, Dv.ret, hold_new, hold_int, hold_bl, hold_tup, hold_lst, hold_obj, hold_str, hold_non, hold_ty, hold_bor, dCall, dCons, dNil, dIter, fIter, dArg, nobor_new, nobor_int, nobor_bl, nobor_tup, nobor_lst, nobor_obj, nobor_str, nobor_non, nobor_ty, Bool.and_self, and_self, if_true, if_false, Bool.false_eq_true, Bool.not_true, Bool.not_false, List.all_cons, List.all_nil, List.length_cons, List.length_nil, Nat.zero_add, Nat.reduceAdd, List.getElem?_cons_zero, List.getElem?_cons_succ, List.set_cons_zero, List.set_cons_succ, fCall, decide_true, decide_false, fmul_int _ q.2 _ (by omega)]))
  have e : (xs.zip ys).map (fun q => hold (.int (q.1 * q.2))) = intsD ((xs.zip ys).map fun q => q.1 * q.2) := by simp only [intsD, List.map_map, Function.comp_def, hold]
  rw [e] at hc
  simp (decide := true) only [bValue, hc, dSeq, dIfS, dRet, dSkip, dAsg, tName, unbor, bindS, dTest, fTest, dBin, dC, dVar, dNotT, dAndT, dOrT, dAndV, dOrV, dIf, bindR, Dv.ret, hold_new, hold_int, hold_bl, hold_tup, hold_lst, hold_obj, hold_str, hold_non, hold_ty, hold_bor, dCall, dCons, dNil, dIter, fIter, dArg, nobor_new, nobor_int, nobor_bl, nobor_tup, nobor_lst, nobor_obj, nobor_str, nobor_non, nobor_ty, Bool.and_self, and_self, if_true, if_false, Bool.false_eq_true, Bool.not_true, Bool.not_false, List.all_cons, List.all_nil, List.length_cons, List.length_nil, Nat.zero_add, Nat.reduceAdd, List.getElem?_cons_zero, List.getElem?_cons_succ, List.set_cons_zero, List.set_cons_succ, fCall, decide_true, decide_false, fSum, seqL, asInts_intsD, fmod_int _ _ _ hp]
end Dv

/-! DvT: the leading place, inverses, scaled rows. -/
namespace Dv
open PySem PySem.Spec PyProof.Rows L2
/-- the first place that isn't 0 -/
def leadN : List Int → Nat
  | [] => 0
  | x :: l => if x = 0 then leadN l + 1 else 0
theorem leadN_le : ∀ l : List Int, leadN l ≤ l.length
  | [] => Nat.le_refl _
  | x :: l => by
    unfold leadN
    have := leadN_le l
    split
    · simp; omega
    · simp
theorem leadN_ne : ∀ {l : List Int}, leadN l < l.length → ∃ x, l[leadN l]? = some x ∧ x ≠ 0
  | [], h => by simp [leadN] at h
  | x :: l, h => by
    unfold leadN at h ⊢
    split
    · rename_i h0
      rw [if_pos h0] at h
      obtain ⟨y, e, n⟩ := leadN_ne (l := l) (by simp at h; omega)
      exact ⟨y, by simpa using e, n⟩
    · rename_i h0
      exact ⟨x, rfl, h0⟩
theorem leadN_zero : ∀ {l : List Int}, leadN l = l.length → ∀ x ∈ l, x = 0
  | [], _, x, h => absurd h List.not_mem_nil
  | y :: l, h, x, hx => by
    unfold leadN at h
    split at h
    · rename_i h0
      simp at h
      rcases List.mem_cons.mp hx with rfl | hx
      · exact h0
      · exact leadN_zero (l := l) h x hx
    · simp at h
/-- what keeps 0 and no more keeps the place -/
theorem leadN_map (f : Int → Int) : ∀ (l : List Int), (∀ x ∈ l, f x = 0 ↔ x = 0) → leadN (l.map f) = leadN l
  | [], _ => rfl
  | x :: l, h => by
    have e := h x List.mem_cons_self
    have ih := leadN_map f l fun y hy => h y (List.mem_cons_of_mem _ hy)
    simp only [List.map_cons]
    unfold leadN
    by_cases h0 : x = 0
    · rw [if_pos (e.mpr h0), if_pos h0, ih]
    · rw [if_neg (fun z => h0 (e.mp z)), if_neg h0]
theorem leadN_cons (x : Int) (l : List Int) : leadN (x :: l) = if x = 0 then leadN l + 1 else 0 := rfl
theorem lead_for {X : D} {μ : Mu} : ∀ (l : List Int) (k : Nat) (a b : SV), ∃ a' b', forRun (Dv.tTup 2 (tsCons (tName 1) (tsCons (tName 2) tsNil))) (dIfS (dTest (dBin fNe (dVar 2) (dC (.int 0)))) (dRet (dVar 1)) dSkip) (enumD k (intsD l)) [.v X, a, b] μ =
    (if leadN l < l.length then some (.val (.ret (.int (k + leadN l : Nat))), [.v X, a', b'], μ) else some (.val .nx, [.v X, a', b'], μ))
  | [], k, a, b => ⟨a, b, by simp [leadN, enumD, forRun]⟩
  | x :: l, k, a, b => by
    show ∃ a' b', forRun _ _ (pairD (.int k) (.int x) :: enumD (k + 1) (intsD l)) _ μ = _
    have e1 : Dv.tTup 2 (tsCons (tName 1) (tsCons (tName 2) tsNil)) [.v X, a, b] (pairD (.int k) (.int x)) = some [.v X, .v (.int k), .v (.int x)] := rfl
    by_cases h0 : x = 0
    · obtain ⟨a', b', e⟩ := lead_for l (k + 1) (.v (.int k)) (.v (.int x))
      refine ⟨a', b', ?_⟩
      unfold forRun
      rw [e1]
      have e2 : dIfS (dTest (dBin fNe (dVar 2) (dC (.int 0)))) (dRet (dVar 1)) dSkip [.v X, .v (.int k), .v (.int x)] μ = some (.val .nx, [.v X, .v (.int k), .v (.int x)], μ) := by
        simp (decide := true) only [dSeq, dIfS, dRet, dSkip, dAsg, tName, unbor, bindS, dTest, fTest, dBin, dC, dVar, dNotT, dAndT, dOrT, dAndV, dOrV, dIf, bindR, Dv.ret, hold_new, hold_int, hold_bl, hold_tup, hold_lst, hold_obj, hold_str, hold_non, hold_ty, hold_bor, dCall, dCons, dNil, dIter, fIter, dArg, nobor_new, nobor_int, nobor_bl, nobor_tup, nobor_lst, nobor_obj, nobor_str, nobor_non, nobor_ty, Bool.and_self, and_self, if_true, if_false, Bool.false_eq_true, Bool.not_true, Bool.not_false, List.all_cons, List.all_nil, List.length_cons, List.length_nil, Nat.zero_add, Nat.reduceAdd, List.getElem?_cons_zero, List.getElem?_cons_succ, List.set_cons_zero, List.set_cons_succ, fCall, decide_true, decide_false, fne_int, h0]
      simp only [e2]
      rw [e]
      rw [leadN_cons, if_pos h0]
      have e3 : k + 1 + leadN l = k + (leadN l + 1) := by omega
      rw [e3]
      by_cases hl : leadN l < l.length
      · rw [if_pos hl, if_pos (by simp; omega)]
      · rw [if_neg hl, if_neg (by simp; omega)]
    · refine ⟨.v (.int k), .v (.int x), ?_⟩
      unfold forRun
      rw [e1]
      have e2 : dIfS (dTest (dBin fNe (dVar 2) (dC (.int 0)))) (dRet (dVar 1)) dSkip [.v X, .v (.int k), .v (.int x)] μ = some (.val (.ret (.int k)), [.v X, .v (.int k), .v (.int x)], μ) := by
        simp (decide := true) only [dSeq, dIfS, dRet, dSkip, dAsg, tName, unbor, bindS, dTest, fTest, dBin, dC, dVar, dNotT, dAndT, dOrT, dAndV, dOrV, dIf, bindR, Dv.ret, hold_new, hold_int, hold_bl, hold_tup, hold_lst, hold_obj, hold_str, hold_non, hold_ty, hold_bor, dCall, dCons, dNil, dIter, fIter, dArg, nobor_new, nobor_int, nobor_bl, nobor_tup, nobor_lst, nobor_obj, nobor_str, nobor_non, nobor_ty, Bool.and_self, and_self, if_true, if_false, Bool.false_eq_true, Bool.not_true, Bool.not_false, List.all_cons, List.all_nil, List.length_cons, List.length_nil, Nat.zero_add, Nat.reduceAdd, List.getElem?_cons_zero, List.getElem?_cons_succ, List.set_cons_zero, List.set_cons_succ, fCall, decide_true, decide_false, fne_int, h0]
      simp only [e2]
      rw [leadN_cons, if_neg h0, if_pos (by simp)]
      rfl
theorem fenum_ {X : D} {xs : List Int} {μ : Mu} (hX : seqD X = some (intsD xs)) : fEnum [X] μ = some (.val (enumD 0 (intsD xs)), μ) := by
  simp only [fEnum, hX, Dv.ret]
theorem flen_ {X : D} {l : List D} {μ : Mu} (hX : seqD X = some l) : fLen [X] μ = some (.val (.int l.length), μ) := by
  cases X <;> first | cases hX; rfl | cases hX
theorem leading_ok {X : D} {xs : List Int} {μ : Mu} (hX : seqD X = some (intsD xs)) : mLeadingPlace [X] μ = some (.val (.int (leadN xs)), μ) := by
  obtain ⟨a, b, e⟩ := lead_for (X := X) (μ := μ) xs 0 .no .no
  have hi : dArg fEnum (dCons (dVar 0) dNil) [.v X, .no, .no] μ = some (.val (enumD 0 (intsD xs)), μ) := by
    simp only [dSeq, dIfS, dRet, dSkip, dAsg, tName, unbor, bindS, dTest, fTest, dBin, dC, dVar, dNotT, dAndT, dOrT, dAndV, dOrV, dIf, bindR, Dv.ret, hold_new, hold_int, hold_bl, hold_tup, hold_lst, hold_obj, hold_str, hold_non, hold_ty, hold_bor, dCall, dCons, dNil, dIter, fIter, dArg, nobor_new, nobor_int, nobor_bl, nobor_tup, nobor_lst, nobor_obj, nobor_str, nobor_non, nobor_ty, Bool.and_self, and_self, if_true, if_false, Bool.false_eq_true, Bool.not_true, Bool.not_false, List.all_cons, List.all_nil, List.length_cons, List.length_nil, Nat.zero_add, Nat.reduceAdd, List.getElem?_cons_zero, List.getElem?_cons_succ, List.set_cons_zero, List.set_cons_succ, fCall, decide_true, decide_false, (seqD_hold hX).1, fenum_ hX]
  have hf := for_of (tg := Dv.tTup 2 (tsCons (tName 1) (tsCons (tName 2) tsNil))) (b := dIfS (dTest (dBin fNe (dVar 2) (dC (.int 0)))) (dRet (dVar 1)) dSkip) hi e
  by_cases h : leadN xs < xs.length
  · rw [if_pos h, Nat.zero_add] at hf
    exact def_ret (env := [.v X, a, b]) (seq_ret hf) rfl
  · rw [if_neg h] at hf
    have hl : leadN xs = xs.length := by have := leadN_le xs; omega
    refine def_ret (env := [.v X, a, b]) (seq_nx hf ?_) rfl
    simp only [dSeq, dIfS, dRet, dSkip, dAsg, tName, unbor, bindS, dTest, fTest, dBin, dC, dVar, dNotT, dAndT, dOrT, dAndV, dOrV, dIf, bindR, Dv.ret, hold_new, hold_int, hold_bl, hold_tup, hold_lst, hold_obj, hold_str, hold_non, hold_ty, hold_bor, dCall, dCons, dNil, dIter, fIter, dArg, nobor_new, nobor_int, nobor_bl, nobor_tup, nobor_lst, nobor_obj, nobor_str, nobor_non, nobor_ty, Bool.and_self, and_self, if_true, if_false, Bool.false_eq_true, Bool.not_true, Bool.not_false, List.all_cons, List.all_nil, List.length_cons, List.length_nil, Nat.zero_add, Nat.reduceAdd, List.getElem?_cons_zero, List.getElem?_cons_succ, List.set_cons_zero, List.set_cons_succ, fCall, decide_true, decide_false, (seqD_hold hX).1, flen_ hX, List.length_map, hl]
/-! ### inverses -/
structure Prm (p : Int) : Prop where
  is : p = 2 ∨ p = 3 ∨ p = 5 ∨ p = 7
theorem inverse_ok {p a : Int} {μ : Mu} (hp : Prm p) (h0 : 0 < a) (h1 : a < p) : ∃ b, mInverse [.int a, .int p] μ = some (.val (.int b), μ) ∧ 0 < b ∧ b < p ∧ a * b % p = 1 ∧ (a = 1 → b = 1) := by
  rcases hp.is with rfl | rfl | rfl | rfl
  · have : a = 1 := by omega
    subst this; exact ⟨1, rfl, by decide, by decide, by decide, by decide⟩
  · have : a = 1 ∨ a = 2 := by omega
    rcases this with rfl | rfl
    · exact ⟨1, rfl, by decide, by decide, by decide, by decide⟩
    · exact ⟨2, rfl, by decide, by decide, by decide, by decide⟩
  · have : a = 1 ∨ a = 2 ∨ a = 3 ∨ a = 4 := by omega
    rcases this with rfl | rfl | rfl | rfl
    · exact ⟨1, rfl, by decide, by decide, by decide, by decide⟩
    · exact ⟨3, rfl, by decide, by decide, by decide, by decide⟩
    · exact ⟨2, rfl, by decide, by decide, by decide, by decide⟩
    · exact ⟨4, rfl, by decide, by decide, by decide, by decide⟩
  · have : a = 1 ∨ a = 2 ∨ a = 3 ∨ a = 4 ∨ a = 5 ∨ a = 6 := by omega
    rcases this with rfl | rfl | rfl | rfl | rfl | rfl
    · exact ⟨1, rfl, by decide, by decide, by decide, by decide⟩
    · exact ⟨4, rfl, by decide, by decide, by decide, by decide⟩
    · exact ⟨5, rfl, by decide, by decide, by decide, by decide⟩
    · exact ⟨2, rfl, by decide, by decide, by decide, by decide⟩
    · exact ⟨3, rfl, by decide, by decide, by decide, by decide⟩
    · exact ⟨6, rfl, by decide, by decide, by decide, by decide⟩
/-! ### scaled -/
theorem fixS_seq {X : D} {l : List D} {i : Int} {d : D} {μ : Mu} (hX : seqD X = some l) (h : atI l i = some d) : fIxS X (.int i) μ = some (.val d, μ) := by
  cases X <;> first | cases hX; simp only [fIxS, fIx, h, Dv.ret] | cases hX
theorem fTuple_ {X : D} {l : List D} {μ : Mu} (hX : seqD X = some l) : fTuple [X] μ = some (.val (.tup l), μ) := by
  cases X <;> first | cases hX; rfl | cases hX
theorem atI_intsD {l : List Int} {k : Nat} {x : Int} (h : l[k]? = some x) : atI (intsD l) (k : Int) = some (.int x) := by
  have hk := (List.getElem?_eq_some_iff.mp h).1
  rw [atI_of (Int.natCast_nonneg _) (by simpa using hk)]
  simp [h]
theorem scaled0 {X : D} {xs : List Int} {p : Int} {μ : Mu} (hX : seqD X = some (intsD xs)) (h : leadN xs = xs.length) : mScaled [X, .int p] μ = some (.val (tupI xs), μ) := by
  refine def_ret (env := [.v X, .v (.int p), .v (.int (leadN xs))]) ?_ rfl
  show bScaled [.v X, .v (.int p), .no] μ = _
  simp (decide := true) only [bScaled, dSeq, dIfS, dRet, dSkip, dAsg, tName, unbor, bindS, dTest, fTest, dBin, dC, dVar, dNotT, dAndT, dOrT, dAndV, dOrV, dIf, bindR, Dv.ret, hold_new, hold_int, hold_bl, hold_tup, hold_lst, hold_obj, hold_str, hold_non, hold_ty, hold_bor, dCall, dCons, dNil, dIter, fIter, dArg, nobor_new, nobor_int, nobor_bl, nobor_tup, nobor_lst, nobor_obj, nobor_str, nobor_non, nobor_ty, Bool.and_self, and_self, if_true, if_false, Bool.false_eq_true, Bool.not_true, Bool.not_false, List.all_cons, List.all_nil, List.length_cons, List.length_nil, Nat.zero_add, Nat.reduceAdd, List.getElem?_cons_zero, List.getElem?_cons_succ, List.set_cons_zero, List.set_cons_succ, fCall, decide_true, decide_false, (seqD_hold hX).1, (seqD_hold hX).2.1, leading_ok hX, flen_ hX, List.length_map, feq_int, h, fTuple_ hX]
theorem scaled1 {X : D} {xs : List Int} {p x b : Int} {μ : Mu} (hX : seqD X = some (intsD xs)) (hp : 0 < p) (h : leadN xs < xs.length) (hx : xs[leadN xs]? = some x) (hb : mInverse [.int x, .int p] μ = some (.val (.int b), μ)) (b0 : 0 < b) (b1 : b < 1000000) :
    mScaled [X, .int p] μ = some (.val (tupI (xs.map fun y => y * b % p)), μ) := by
  refine def_ret (env := [.v X, .v (.int p), .v (.int (leadN xs))]) ?_ rfl
  show bScaled [.v X, .v (.int p), .no] μ = _
  have hne : ¬ ((leadN xs : Int) = (xs.length : Int)) := by omega
  simp (decide := true) only [bScaled, dSeq, dIfS, dRet, dSkip, dAsg, tName, unbor, bindS, dTest, fTest, dBin, dC, dVar, dNotT, dAndT, dOrT, dAndV, dOrV, dIf, bindR, Dv.ret, hold_new, hold_int, hold_bl, hold_tup, hold_lst, hold_obj, hold_str, hold_non, hold_ty, hold_bor, dCall, dCons, dNil, dIter, fIter, dArg, nobor_new, nobor_int, nobor_bl, nobor_tup, nobor_lst, nobor_obj, nobor_str, nobor_non, nobor_ty, Bool.and_self, and_self, if_true, if_false, Bool.false_eq_true, Bool.not_true, Bool.not_false, List.all_cons, List.all_nil, List.length_cons, List.length_nil, Nat.zero_add, Nat.reduceAdd, List.getElem?_cons_zero, List.getElem?_cons_succ, List.set_cons_zero, List.set_cons_succ, fCall, decide_true, decide_false, (seqD_hold hX).1, (seqD_hold hX).2.1, leading_ok hX, flen_ hX, List.length_map, feq_int, hne, fixS_seq hX (atI_intsD hx), hb, multiplied_ok hX hp (Int.le_of_lt b0) b1]
/-! ### the law's own leading place -/
theorem lead_filter : ∀ xs : List Int, ((List.range xs.length).filter fun i => !decide ((xs[i]?.getD 0) = 0)).head? = if leadN xs < xs.length then some (leadN xs) else none
  | [] => rfl
  | x :: l => by
    rw [List.length_cons, List.range_succ_eq_map, List.filter_cons]
    rw [leadN_cons]
    by_cases h0 : x = 0
    · have ih := lead_filter l
      rw [if_neg (by simp [h0]), if_pos h0, List.filter_map, List.head?_map]
      have e : ((fun i => !decide (((x :: l)[i]?.getD 0) = 0)) ∘ Nat.succ) = fun i => !decide ((l[i]?.getD 0) = 0) := by
        funext i; simp
      rw [e, ih]
      by_cases hl : leadN l < l.length
      · rw [if_pos hl, if_pos (by omega)]; rfl
      · rw [if_neg hl, if_neg (by omega)]; rfl
    · rw [if_pos (by simp [h0]), if_neg h0]; simp
theorem lead_ok {X : D} {xs : List Int} {μ : Mu} (hX : seqD X = some (intsD xs)) (hz : xs.length ≤ 1000) : mLead [X] μ = some (.val (.int (if leadN xs < xs.length then (leadN xs : Int) else -1)), μ) := by
  have hr : rangeD 0 (xs.length : Int) = (List.range xs.length).map fun (i : Nat) => D.int i := by
    unfold rangeD
    have : ((xs.length : Int) - 0).toNat = xs.length := by omega
    rw [this]
    congr 1
    funext i
    rw [Int.zero_add]
  have hc := dLc_of (it := dArg fRange1 (dCons (dCall fLen (dCons (dVar 0) dNil)) dNil)) (own := [2]) (env := [.v X, .no, .no]) (μ := μ) rfl (by
      simp (decide := true) only [dSeq, dIfS, dRet, dSkip, dAsg, tName, unbor, bindS, dTest, fTest, dBin, dC, dVar, dNotT, dAndT, dOrT, dAndV, dOrV, dIf, bindR, Dv.ret, hold_new, hold_int, hold_bl, hold_tup, hold_lst, hold_obj, hold_str, hold_non, hold_ty, hold_bor, dCall, dCons, dNil, dIter, fIter, dArg, nobor_new, nobor_int, nobor_bl, nobor_tup, nobor_lst, nobor_obj, nobor_str, nobor_non, nobor_ty, Bool.and_self, and_self, if_true, if_false, Bool.false_eq_true, Bool.not_true, Bool.not_false, List.all_cons, List.all_nil, List.length_cons, List.length_nil, Nat.zero_add, Nat.reduceAdd, List.getElem?_cons_zero, List.getElem?_cons_succ, List.set_cons_zero, List.set_cons_succ, fCall, decide_true, decide_false, (seqD_hold hX).1, flen_ hX, List.length_map, range1_ _ _ (Int.natCast_nonneg xs.length) (by omega : (xs.length : Int) ≤ 16777216), hr]) (lc_filter (fun (i : Nat) => .int (i : Int)) (fun i => .int (i : Int)) (fun i => !decide ((xs[i]?.getD 0) = 0)) (List.range xs.length) (tt := dTest (dBin fNe (dBin fIxS (dVar 0) (dVar 2)) (dC (.int 0)))) (tg := tName 2) (el := dVar 2) (μ := μ) (fun i hi => by
        have hlt := List.mem_range.mp hi
        have hx : xs[i]? = some xs[i] := by simp [hlt]
        refine ⟨[.v X, .no, .v (.int i)], rfl, ?_, ?_, rfl⟩
        · simp (decide := true) only [dSeq, dIfS, dRet, dSkip, dAsg, tName, unbor, bindS, dTest, fTest, dBin, dC, dVar, dNotT, dAndT, dOrT, dAndV, dOrV, dIf, bindR, Dv.ret, hold_new, hold_int, hold_bl, hold_tup, hold_lst, hold_obj, hold_str, hold_non, hold_ty, hold_bor, dCall, dCons, dNil, dIter, fIter, dArg, nobor_new, nobor_int, nobor_bl, nobor_tup, nobor_lst, nobor_obj, nobor_str, nobor_non, nobor_ty, Bool.and_self, and_self, if_true, if_false, Bool.false_eq_true, Bool.not_true, Bool.not_false, List.all_cons, List.all_nil, List.length_cons, List.length_nil, Nat.zero_add, Nat.reduceAdd, List.getElem?_cons_zero, List.getElem?_cons_succ, List.set_cons_zero, List.set_cons_succ, fCall, decide_true, decide_false, (seqD_hold hX).1, fixS_seq hX (atI_intsD hx), fne_int, hx, Option.getD_some]
        · simp (decide := true) only [dSeq, dIfS, dRet, dSkip, dAsg, tName, unbor, bindS, dTest, fTest, dBin, dC, dVar, dNotT, dAndT, dOrT, dAndV, dOrV, dIf, bindR, Dv.ret, hold_new, hold_int, hold_bl, hold_tup, hold_lst, hold_obj, hold_str, hold_non, hold_ty, hold_bor, dCall, dCons, dNil, dIter, fIter, dArg, nobor_new, nobor_int, nobor_bl, nobor_tup, nobor_lst, nobor_obj, nobor_str, nobor_non, nobor_ty, Bool.and_self, and_self, if_true, if_false, Bool.false_eq_true, Bool.not_true, Bool.not_false, List.all_cons, List.all_nil, List.length_cons, List.length_nil, Nat.zero_add, Nat.reduceAdd, List.getElem?_cons_zero, List.getElem?_cons_succ, List.set_cons_zero, List.set_cons_succ, fCall, decide_true, decide_false]))
  have hf := lead_filter xs
  refine def_ret (env := [.v X, .v (.lst (((List.range xs.length).filter fun i => !decide ((xs[i]?.getD 0) = 0)).map fun (i : Nat) => .int (i : Int))), .no]) ?_ rfl
  show bLead [.v X, .no, .no] μ = _
  have e : (((List.range xs.length).filter fun i => !decide ((xs[i]?.getD 0) = 0)).map fun (i : Nat) => hold (.int (i : Int))) = (((List.range xs.length).filter fun i => !decide ((xs[i]?.getD 0) = 0)).map fun (i : Nat) => D.int (i : Int)) := rfl
  rw [e] at hc
  generalize (List.range xs.length).filter (fun i => !decide ((xs[i]?.getD 0) = 0)) = ps at hc hf
  cases ps with
  | nil =>
    have hn : ¬ leadN xs < xs.length := fun h => by rw [if_pos h] at hf; cases hf
    rw [if_neg hn]
    have en : fNe (.lst []) (.lst []) μ = some (.val (.bl false), μ) := rfl
    simp (decide := true) only [bLead, hc, dSeq, dIfS, dRet, dSkip, dAsg, tName, unbor, bindS, dTest, fTest, dBin, dC, dVar, dNotT, dAndT, dOrT, dAndV, dOrV, dIf, bindR, Dv.ret, hold_new, hold_int, hold_bl, hold_tup, hold_lst, hold_obj, hold_str, hold_non, hold_ty, hold_bor, dCall, dCons, dNil, dIter, fIter, dArg, nobor_new, nobor_int, nobor_bl, nobor_tup, nobor_lst, nobor_obj, nobor_str, nobor_non, nobor_ty, Bool.and_self, and_self, if_true, if_false, Bool.false_eq_true, Bool.not_true, Bool.not_false, List.all_cons, List.all_nil, List.length_cons, List.length_nil, Nat.zero_add, Nat.reduceAdd, List.getElem?_cons_zero, List.getElem?_cons_succ, List.set_cons_zero, List.set_cons_succ, fCall, decide_true, decide_false, dLst, fLst, List.map_nil, en, fSub]
    rfl
  | cons i ps =>
    have hn : leadN xs < xs.length := by
      by_cases h : leadN xs < xs.length
      · exact h
      · rw [if_neg h] at hf; cases hf
    rw [if_pos hn] at hf ⊢
    cases hf
    have en : fNe (.lst (D.int (leadN xs : Int) :: ps.map fun (i : Nat) => D.int (i : Int))) (.lst []) μ = some (.val (.bl true), μ) := by
      have hp : plainD 60 (.lst (D.int (leadN xs : Int) :: ps.map fun (i : Nat) => D.int (i : Int))) = true := by
        unfold plainD
        rw [List.all_cons, plainD_int, Bool.true_and, List.all_eq_true]
        intro d hd
        obtain ⟨i, _, rfl⟩ := List.mem_map.mp hd
        exact plainD_int _ _
      have hp2 : plainD 60 (.lst []) = true := rfl
      simp only [fNe, hp, hp2, Bool.and_self, if_true, Dv.ret]
      rfl
    have ei : fIxS (.lst (D.int (leadN xs : Int) :: ps.map fun (i : Nat) => D.int (i : Int))) (.int 0) μ = some (.val (.int (leadN xs : Int)), μ) := by
      refine fixS_seq rfl ?_
      rw [atI_of (by decide) (by simp)]; rfl
    simp (decide := true) only [bLead, hc, dSeq, dIfS, dRet, dSkip, dAsg, tName, unbor, bindS, dTest, fTest, dBin, dC, dVar, dNotT, dAndT, dOrT, dAndV, dOrV, dIf, bindR, Dv.ret, hold_new, hold_int, hold_bl, hold_tup, hold_lst, hold_obj, hold_str, hold_non, hold_ty, hold_bor, dCall, dCons, dNil, dIter, fIter, dArg, nobor_new, nobor_int, nobor_bl, nobor_tup, nobor_lst, nobor_obj, nobor_str, nobor_non, nobor_ty, Bool.and_self, and_self, if_true, if_false, Bool.false_eq_true, Bool.not_true, Bool.not_false, List.all_cons, List.all_nil, List.length_cons, List.length_nil, Nat.zero_add, Nat.reduceAdd, List.getElem?_cons_zero, List.getElem?_cons_succ, List.set_cons_zero, List.set_cons_succ, fCall, decide_true, decide_false, dLst, fLst, List.map_cons, en, ei]
end Dv

/-! DvU: equality of data, the source, more. -/
namespace Dv
open PySem PySem.Spec PyProof.Rows L2
theorem deq_refl : ∀ (n : Nat) (d : D), lkD n d = true → deq d d = true := by
  intro n
  induction n with
  | zero => ?_
  | succ n ih => ?_
  all_goals intro d hd
  all_goals cases d
  all_goals try (simp [lkD] at hd; done)
  all_goals try (simp [deq, toPy, PyData.eqv]; done)
  all_goals
    rename_i l
    have hl : ∀ d ∈ l, lkD n d = true := List.all_eq_true.mp (by simpa [lkD] using hd)
    have q : ∀ m : List D, (∀ d ∈ m, lkD n d = true) → PyData.eqvAll (toPys m) (toPys m) = true := by
      intro m
      induction m with
      | nil => intro _; rfl
      | cons d m ih2 =>
        intro h
        unfold toPys PyData.eqvAll
        have e1 : PyData.eqv (toPy d) (toPy d) = true := ih d (h d List.mem_cons_self)
        rw [e1, ih2 fun x hx => h x (List.mem_cons_of_mem _ hx)]; rfl
    simp only [deq, toPy, PyData.eqv]
    exact q l hl
theorem lk_int (n : Nat) (i : Int) : lkD n (.int i) = true := by cases n <;> rfl
theorem lk_intsD (n : Nat) (l : List Int) : (intsD l).all (lkD n) = true := by
  rw [List.all_eq_true]; intro d hd
  obtain ⟨i, _, rfl⟩ := List.mem_map.mp hd
  exact lk_int n i
theorem lk_tupI (n : Nat) (l : List Int) : lkD (n + 1) (tupI l) = true := lk_intsD n l
theorem lk_lstI (n : Nat) (l : List Int) : lkD (n + 1) (lstI l) = true := lk_intsD n l
theorem lk_plain : ∀ {n : Nat} {d : D}, lkD n d = true → plainD n d = true := by
  intro n
  induction n with
  | zero => ?_
  | succ n ih => ?_
  all_goals intro d hd
  all_goals cases d
  all_goals try (simp [lkD] at hd; done)
  all_goals try rfl
  all_goals try (simpa [lkD, plainD] using hd)
  all_goals
    rename_i l
    have hl : ∀ d ∈ l, lkD n d = true := List.all_eq_true.mp (by simpa [lkD] using hd)
    unfold plainD
    exact List.all_eq_true.mpr fun d h => ih (hl d h)
theorem lk_up : ∀ {n : Nat} {d : D}, lkD n d = true → lkD (n + 1) d = true := by
  intro n
  induction n with
  | zero => ?_
  | succ n ih => ?_
  all_goals intro d hd
  all_goals cases d
  all_goals try (simp [lkD] at hd; done)
  all_goals try rfl
  all_goals try (simp [lkD] at hd ⊢; exact hd)
  all_goals
    rename_i l
    have hl : ∀ d ∈ l, lkD n d = true := List.all_eq_true.mp (by simpa [lkD] using hd)
    unfold lkD
    exact List.all_eq_true.mpr fun d h => ih (hl d h)
theorem lk_le {n m : Nat} {d : D} (h : lkD n d = true) (hm : n ≤ m) : lkD m d = true := by
  induction hm with
  | refl => exact h
  | step _ ih => exact lk_up ih
theorem feq_self {d : D} (n : Nat) (h : lkD n d = true) (hn : n ≤ 60) (μ : Mu) : fEq d d μ = some (.val (.bl true), μ) := by
  have hp := lk_plain (lk_le h hn)
  simp only [fEq, hp, Bool.and_self, if_true, deq_refl n d h, Dv.ret]
theorem fne_self {d : D} (n : Nat) (h : lkD n d = true) (hn : n ≤ 60) (μ : Mu) : fNe d d μ = some (.val (.bl false), μ) := by
  have hp := lk_plain (lk_le h hn)
  simp only [fNe, hp, Bool.and_self, if_true, deq_refl n d h, Dv.ret, Bool.not_true]
theorem eqvAll_ints : ∀ a b : List Int, PyData.eqvAll (toPys (intsD a)) (toPys (intsD b)) = decide (a = b)
  | [], [] => rfl
  | [], _ :: _ => rfl
  | _ :: _, [] => rfl
  | x :: a, y :: b => by
    show PyData.eqvAll (toPy (.int x) :: toPys (intsD a)) (toPy (.int y) :: toPys (intsD b)) = _
    unfold PyData.eqvAll
    rw [eqvAll_ints a b]
    have : PyData.eqv (toPy (.int x)) (toPy (.int y)) = decide (x = y) := deq_int x y
    rw [this]
    by_cases h1 : x = y <;> by_cases h2 : a = b <;> simp [h1, h2]
theorem feq_tup (a b : List Int) (μ : Mu) : fEq (tupI a) (tupI b) μ = some (.val (.bl (decide (a = b))), μ) := by
  have h1 : plainD 60 (tupI a) = true := lk_plain (lk_le (lk_tupI 0 a) (by decide))
  have h2 : plainD 60 (tupI b) = true := lk_plain (lk_le (lk_tupI 0 b) (by decide))
  have e : deq (tupI a) (tupI b) = decide (a = b) := by
    simp only [deq, tupI, toPy, PyData.eqv]; exact eqvAll_ints a b
  simp only [fEq, h1, h2, Bool.and_self, if_true, e, Dv.ret]
theorem fne_tup (a b : List Int) (μ : Mu) : fNe (tupI a) (tupI b) μ = some (.val (.bl (!decide (a = b))), μ) := by
  have h1 : plainD 60 (tupI a) = true := lk_plain (lk_le (lk_tupI 0 a) (by decide))
  have h2 : plainD 60 (tupI b) = true := lk_plain (lk_le (lk_tupI 0 b) (by decide))
  have e : deq (tupI a) (tupI b) = decide (a = b) := by
    simp only [deq, tupI, toPy, PyData.eqv]; exact eqvAll_ints a b
  simp only [fNe, h1, h2, Bool.and_self, if_true, e, Dv.ret]
/-! ### the drawer's making -/
theorem cut_intsD (l : List Int) (lo hi : Option Int) : cutD (intsD l) lo hi = intsD (cutD l lo hi) := by
  unfold cutD intsD
  rw [List.length_map, List.map_take, List.map_drop]
theorem source_ok (k c : Int) (ns : List Int) (hl : ns.length ≤ 63) :
    ∃ s, adopt (cleanD (defD 1 (dRet (dLst (dCons (dCall fList (dCons (dSl (dVar 0) dNoPart (dPart (dC (.int k)))) dNil)) (dCons (dC (.int 0)) (dCons (dC (.int 0)) (dCons (dC (.int c)) (dCons (dC (.int 0)) dNil))))))))) [.scr (intsD ns)] [] = some (.val (.obj 0), [.src s]) ∧ (0 ≤ c → c < 2147483587 → OkS s) := by
  have hz := cut_len ns none (some k)
  refine ⟨⟨cutD ns none (some k), 0, 0, c, 0⟩, ?_, fun h0 h1 => ⟨Nat.le_trans hz hl, Int.le_refl 0, h0, h1⟩⟩
  have e : cleanD (defD 1 (dRet (dLst (dCons (dCall fList (dCons (dSl (dVar 0) dNoPart (dPart (dC (.int k)))) dNil)) (dCons (dC (.int 0)) (dCons (dC (.int 0)) (dCons (dC (.int c)) (dCons (dC (.int 0)) dNil)))))))) [.scr (intsD ns)] [] = some (.val (.new [.lst (intsD (cutD ns none (some k))), .int 0, .int 0, .int c, .int 0]), []) := by
    refine def_ret (env := [.v (.scr (intsD ns))]) ?_ rfl
    have h : hold (.scr (intsD ns)) = .scr (intsD ns) := rfl
    show dRet _ [.v (.scr (intsD ns))] [] = _
    simp (decide := true) only [dSeq, dIfS, dRet, dSkip, dAsg, tName, unbor, bindS, dTest, fTest, dBin, dC, dVar, dNotT, dAndT, dOrT, dAndV, dOrV, dIf, bindR, Dv.ret, hold_new, hold_int, hold_bl, hold_tup, hold_lst, hold_obj, hold_str, hold_non, hold_ty, hold_bor, dCall, dCons, dNil, dIter, fIter, dArg, nobor_new, nobor_int, nobor_bl, nobor_tup, nobor_lst, nobor_obj, nobor_str, nobor_non, nobor_ty, Bool.and_self, and_self, if_true, if_false, Bool.false_eq_true, Bool.not_true, Bool.not_false, List.all_cons, List.all_nil, List.length_cons, List.length_nil, Nat.zero_add, Nat.reduceAdd, List.getElem?_cons_zero, List.getElem?_cons_succ, List.set_cons_zero, List.set_cons_succ, fCall, decide_true, decide_false, dSl, dNoPart, dPart, fPart, fSl, h, fList, cut_intsD, dLst, fLst]
  unfold adopt
  rw [e]
  simp only [asInts_intsD, List.length_nil, List.nil_append]
/-! ### zeros -/
theorem flat_one (n : Nat) : (List.replicate n [D.int 0]).flatten = intsD (List.replicate n 0) := by
  induction n with
  | zero => rfl
  | succ n ih => rw [List.replicate_succ, List.flatten_cons, ih]; rfl
theorem zeros_ (n : Int) (μ : Mu) (h0 : 1 ≤ n) (h1 : n ≤ 1000) : fMul (.tup [.int 0]) (.int n) μ = some (.val (tupI (List.replicate n.toNat 0)), μ) := by
  have h : 1 ≤ n ∧ n ≤ 1000 ∧ [D.int 0].length ≤ 1000 ∧ [D.int 0] ≠ [] := ⟨h0, h1, by decide, by simp⟩
  simp only [fMul, if_pos h, repL, flat_one, Dv.ret]
theorem zip_zeros (g : Int × Int → Int) : ∀ a : List Int, ((List.replicate a.length 0).zip a).map g = a.map fun x => g (0, x)
  | [] => rfl
  | x :: a => by
    have := zip_zeros g a
    simp [List.replicate_succ, this]
end Dv

/-! DwA: an own error's __init__ that begins with super().__init__(text): the context, the first statement, the def by the rest of its body. -/
namespace Dv
open PySem PySem.Spec PyProof.Rows L2
/-- such a def, the class D in its cell -/
structure SupD (P : Program) (K : PySem.W.Frag) (x qual : Str) (params : Arguments) (body : List Stmt) (scope : Scope) (f : Addr) (fd : FuncData) (D : Addr) : Prop where
  ex : ∃ (oc : Value) (od : Option Addr) (kV doc pm : Value) (an : Option Addr) (cda : Addr) (ct : Value) (osl : Array (Option Value)) (cc : Addr) (cl : Value) (cld : Option Addr) (csl : Array (Option Value)) (ccl : Value) (cdd : Option Addr) (vs : Array Value) (ccs : Array (Option Value)) (file : Str) (tf : Tok),
    fd = PySem.W.ksFn x qual params body scope .none kV doc pm an (.ref cda) ct cc ∧ K.lookup f = some ⟨oc, od, .func fd, osl⟩ ∧ PySem.W.codeIn K (.ref cda) qual = true ∧ K.lookup cda = some ⟨ccl, cdd, .fields vs, ccs⟩ ∧ vs[2]? = some (.str file tf) ∧ (P.main.file == file) = true ∧ K.lookup cc = some ⟨cl, cld, .cell (some (.ref D)), csl⟩
  kp : PySem.W.keepIn K (.ref f) = true
structure SupScope (N ps : List Str) (sc : Scope) : Prop where
  kind : sc.kind = ScopeKind.function
  co : sc.isCoroutine = false
  gen : sc.isGenerator = false
  nd : N.Nodup
  pre : N.take ps.length = ps
  par : ∀ x ∈ ps, sc.names.lookup x = some .local
  nocell : ∀ y ∈ sc.names, y.2 ≠ .cell
  free : ∀ y ∈ sc.names, y.2 = .free → y.1 = "__class__"
  cls : sc.names.lookup ("__class__" : Str) = some .free
  sup : sc.names.lookup ("super" : Str) = some .globalImplicit
abbrev envS (qual : Str) (scope : Scope) (L f : Addr) (cd : Value) (cc : Addr) : Env := PySem.W.ksEnv qual scope L f cd cc
def cxS (P : Program) (w : World) (K : PySem.W.Frag) (mg : Str → Option Value) (base : Heap) (N : List Str) (qual : Str) (scope : Scope) (f : Addr) (cd : Value) (cc : Addr) (A : Around) (outer : List Env) (s : Shared) (H : Hp) (E : XK) : Cx where
  prog := P
  w := w
  K := K
  mg := mg
  base := base
  A := A.deeper (envS qual scope s.heap.objs.size f cd cc)
  N := N
  s_0 := s
  H_0 := H
  env := envS qual scope s.heap.objs.size f cd cc
  outer := outer
  stack := envS qual scope s.heap.objs.size f cd cc :: outer
  ex := []
  calm := true
  fn := fun _ => false
  pn := []
  xe := fun e s' => wpAny (model P w) (A.deeper (envS qual scope s.heap.objs.size f cd cc)) (leaving (envS qual scope s.heap.objs.size f cd cc) e) (fun _ s'' => L2.CX P w outer H s E e s'') (fun e' s'' => L2.CX P w outer H s E e' s'') s'
theorem lookup_mem_nodup {α : Type} {x : Str} {v : α} : ∀ {l : List (Str × α)}, (l.map (·.1)).Nodup → (x, v) ∈ l → l.lookup x = some v
  | [], _, h => absurd h List.not_mem_nil
  | (y, u) :: l, nd, h => by
    rw [List.map_cons, List.nodup_cons] at nd
    rcases List.mem_cons.mp h with e | h
    · cases e; simp [List.lookup]
    · have ne : ¬ x = y := fun e => nd.1 (by rw [← e]; exact List.mem_map.mpr ⟨_, h, rfl⟩)
      have e : (x == y) = false := by simpa using ne
      unfold List.lookup
      rw [e]
      exact lookup_mem_nodup nd.2 h
/-- what stands at the entry comes from the arguments -/
theorem start_get {N : List Str} {vs : List V} {i : Nat} {v : V} (h : (L2.start N vs)[i]? = some (some v)) : vs[i]? = some v := by
  have h : (vs.map some ++ List.replicate (N.length - vs.length) (none : Option V))[i]? = some (some v) := h
  rw [List.getElem?_append, List.length_map] at h
  split at h
  · rw [List.getElem?_map] at h
    cases q : vs[i]? <;> rw [q] at h <;> cases h
    rfl
  · rw [List.getElem?_replicate] at h
    split at h <;> cases h
theorem mem_free {sc : Scope} {y : Str} {k : NameKind} (h : sc.names.lookup y = some k) : (y, k) ∈ sc.names := PySem.mem_of_lookup h
section
variable {P : Program} {w : World} {K : PySem.W.Frag} {mg : Str → Option Value} {base : Heap} {N ps : List Str} {qual : Str} {scope : Scope} {f cc : Addr} {cd : Value} {A : Around} {outer : List Env} {s : Shared} {H : Hp} {E : XK} {us : List Value} {vs : List V} {h1 : Heap}
theorem inv_startS {cl : Value} {cld : Option Addr} {csl : Array (Option Value)} {D : Addr} (S : SupScope N ps scope) (hd : A.handled = none) (e0 : Env0 P w K mg base A outer s H) (hl : vs.length = ps.length) (r : Vals vs us) (hc : K.lookup cc = some ⟨cl, cld, .cell (some (.ref D)), csl⟩)
    (hns : h1.Ns s.heap.objs.size (fun x => (ps.zip us).reverse.lookup x)) (hk : ∀ b o, s.heap.get? b = some o → h1.get? b = some o) (tk : Nat) :
    Inv (cxS P w K mg base N qual scope f cd cc A outer s H E) [] (L2.start N vs) H { s with heap := h1, toks := tk } := by
  have hpl : ps.length ≤ N.length := by have := congrArg List.length S.pre; rw [List.length_take] at this; omega
  have noA : ∀ b : Addr, b ∉ (cxS P w K mg base N qual scope f cd cc A outer s H E).ex := fun b z => absurd (show b ∈ ([] : List Addr) from z) (by simp)
  have one : ∀ {x : Str} {c : Addr}, List.lookup x [(("__class__" : Str), cc)] = some c → x = "__class__" ∧ c = cc := fun {x c} h => by
    have := PySem.mem_of_lookup h
    simp only [List.mem_cons, List.not_mem_nil, or_false, Prod.mk.injEq] at this
    exact this
  have hcell : base.get? cc = some ⟨cl, cld, .cell (some (.ref D)), csl⟩ := e0.mod.kin _ _ hc
  have hcs := e0.bs _ _ hcell
  refine ⟨⟨e0.mod, S.kind, rfl, rfl, Nat.le_refl _, fun y z c h1 h2 => ?_, fun y hy => ?_, fun y c hf _ => (by cases hf), fun _ => hd, Around.frames_deeper e0.frames, .inr ⟨rfl, rfl⟩, fun b z => absurd z (noA b), e0.bs, e0.bsz, fun b _ _ => noA b, fun b z => absurd z (noA b), e0.funs, e0.frf⟩,
    rfl, e0.bare, Un.kept hk, ⟨_, hns, fun i y v h1 h2 h3 => ?_⟩, fun y c h => ⟨some (.ref D), ?_⟩, e0.hok.fresh (Nat.le_refl _), fun y c h => ?_, fun p hp => absurd (show p ∈ ([] : List (Addr × Obj)) from hp) (by simp), e0.hok.kept hk, ?_⟩
  · exact (one h1).1.trans (one h2).1.symm
  · have hy : scope.names.lookup y = some .cell ∨ scope.names.lookup y = some .free := hy
    rcases hy with hy | hy
    · exact absurd rfl (S.nocell _ (mem_free hy))
    · have e := S.free _ (mem_free hy) rfl
      have e : y = "__class__" := e
      subst e
      exact ⟨cc, rfl⟩
  · have ha := start_get h2
    obtain ⟨u, hu, rv⟩ := r.get ha
    have hi : i < vs.length := (List.getElem?_eq_some_iff.mp ha).1
    have hp : ps[i]? = some y := S.pre ▸ ((List.getElem?_take_of_lt (by omega)).trans h1 : (N.take ps.length)[i]? = some y)
    have ndP : ps.Nodup := S.pre ▸ S.nd.sublist (List.take_sublist ps.length N)
    refine ⟨u, rv, .inl ⟨S.par y (List.mem_of_getElem? hp), ?_⟩⟩
    have hm : (y, u) ∈ ps.zip us := List.mem_iff_getElem?.mpr ⟨i, by rw [List.getElem?_zip_eq_some]; exact ⟨hp, hu⟩⟩
    refine lookup_mem_nodup ?_ (List.mem_reverse.mpr hm)
    rw [List.map_reverse]
    have hul : us.length = ps.length := by rw [← Paired.length r]; exact hl
    have : (ps.zip us).map (·.1) = ps := List.map_fst_zip (by omega)
    rw [this]
    exact (List.pairwise_reverse).mpr (ndP.imp fun h => Ne.symm h)
  · have := one h
    rw [this.2]
    exact ⟨_, hk _ _ hcs.1, rfl⟩
  · have := one h
    rw [this.2]
    exact hcs.2
  · unfold L2.start
    show _ = N.length
    rw [List.length_append, List.length_map, List.length_replicate]
    omega
/-! ### errors over ValueError, LookupError, IndexError -/
inductive EBase where
  | ve | le | ie
def EBase.nm : EBase → String
  | .ve => "ValueError"
  | .le => "LookupError"
  | .ie => "IndexError"
def EBase.new : EBase → String
  | .ve => "ValueError.__new__"
  | .le => "LookupError.__new__"
  | .ie => "IndexError.__new__"
def EBase.ini : EBase → String
  | .ve => "ValueError.__init__"
  | .le => "LookupError.__init__"
  | .ie => "IndexError.__init__"
def EBase.tail : EBase → List Value
  | .ve => [.type "ValueError", .type "Exception", .type "BaseException", .type "object"]
  | .le => [.type "LookupError", .type "Exception", .type "BaseException", .type "object"]
  | .ie => [.type "IndexError", .type "LookupError", .type "Exception", .type "BaseException", .type "object"]
theorem EBase.facts : ∀ b : EBase, ExcBaseFacts b.nm b.new b.ini b.tail
  | .ve => F.excBase_ValueError
  | .le => F.excBase_LookupError
  | .ie => F.excBase_IndexError
theorem EBase.store : ∀ b : EBase, StoreFacts b.nm b.tail "object.__setattr__" "object"
  | .ve => F.store_ValueError
  | .le => F.store_LookupError
  | .ie => F.store_IndexError
theorem EBase.kxs : ∀ b : EBase, PySem.W.KxsFacts b.nm b.ini
  | .ve => PySem.W.kxs_ValueError
  | .le => PySem.W.kxs_LookupError
  | .ie => PySem.W.kxs_IndexError
/-- what the written part says of an own error class over the base b -/
structure OexN (K : PySem.W.Frag) (C : Addr) (b : EBase) : Prop where
  cls : ∃ nm q N bs bm sn sub ab col dd k0 k1 k2 k3 k5, K.lookup C = some (excClassObj nm q C N bs bm true sn sub ab col dd k0 k1 k2 k3 k5 b.new) ∧ PySem.W.excTail b.tail bm = true
  sa : PySem.W.findIn K (.ref C) "__setattr__" = some (some (.builtin "object.__setattr__"))
  exC : PySem.W.subIn K (.ref C) (.type "BaseException") = some true
  tyC : PySem.W.typeIn K (.ref C) = some (.type "type")
  kC : PySem.W.keepIn K (.ref C) = true
/-- what the class C of the object that is made has, D the class in the cell -/
structure SupC (K : PySem.W.Frag) (C D : Addr) (b : EBase) : Prop where
  oex : OexN K C b
  clsD : ∃ cd, PySem.W.clsIn K D = some cd
  sub : PySem.W.mroIn K C (.ref D) = some true
  sup : PySem.W.ks_superIn K C D "__init__" = some (some (.builtin b.ini))
  subV : PySem.W.subIn K (.ref C) (.type b.nm) = some true
  nop : PySem.W.nsIn K cStatics "thirdparty.any" = some none
theorem call_mw {b0 : EBase} {C u x t0 : Addr} {rest : List Value} {A : Around} {E : Value → Shared → Prop} {Q : Value → Shared → Prop} {prog : Program} {w : World} {s : Shared} (T : OexN K C b0) (KX : K.In s.heap)
    (hu : s.heap.get? u = some (PySem.W.kxs_mw b0.ini x)) (hx : s.heap.get? x = some (PySem.W.excObj C t0 none .none)) (hz : rest.length ≤ sizeLine)
    (h : ∀ t' h', (∀ b o, b ≠ x → s.heap.get? b = some o → h'.get? b = some o) → h'.get? x = some (PySem.W.excObj C t' none .none) → Q .none { s with heap := h' }) :
    wpAny (model prog w) A (call (.ref u) rest) Q E s := by
  obtain ⟨nm, q, N, bs, bm, sn, sub, ab, col, dd, k0, k1, k2, k3, k5, hC, hbm⟩ := T.cls
  have hC' := KX _ _ hC
  obtain ⟨hh, g, d, tk, os⟩ := s
  refine wpAny_call (codeAny_of_tree ?_)
  show wpAny _ A.in1 (callAny (.ref u) ⟨rest, []⟩) _ _ _
  simp only [callAny]
  refine wpAny_bind (wpAny_load hu ?_)
  simp only [PySem.W.kxs_mw, show (Value.type "method-wrapper" == Value.type "method" || Value.type "method-wrapper" == Value.type "builtin_function_or_method" || Value.type "method-wrapper" == Value.type "method-wrapper") = true by decide, if_true]
  refine PySem.W.KFB.if_so (by decide) ?_
  refine wpAny_bind (PySem.W.check_bound_init b0.facts.toExcCallFacts hC' hx rfl ?_)
  refine wpAny_bind (wpAny_pure (wpAny_pure ?_))
  refine ⟨plainId_quiet b0.facts.init.plain _, codeAny_builtin b0.facts.initEntry ?_⟩
  exact PySem.W.exc_init_tree (cls := .ref C) (t0 := t0) (dv := none) (c2 := .none) (c3 := .none) (b4 := .bool false) hx hz fun h' k e' _ => h _ h' k e'
theorem super_step {b0 : EBase} {σ : L2.St} {H0 : Hp} {s1 : Shared} {a C D cda : Addr} {oc : Value} {od : Option Addr} {fd : FuncData} {osl : Array (Option Value)} {ar : Arg} {ccl : Value} {cdd : Option Addr} {fvs : Array Value} {ccs : Array (Option Value)} {file : Str} {tf : Tok} {cl : Value} {cld : Option Addr} {csl : Array (Option Value)} {body : List Stmt} {p0 p1 p2 p3 p4 pos : Pos} {txt : Str} {j : Nat} {Q : Flow → Shared → Prop} {E' : Value → Shared → Prop}
    (I : Inv (cxS P w K mg base N qual scope f (.ref cda) cc A outer s H0 E) [] σ H s1) (S : SupScope N ps scope) (hf : K.lookup f = some ⟨oc, od, .func fd, osl⟩) (hpar : (fd.params.posonlyargs ++ fd.params.args).head? = some ar) (har : scope.names.lookup ar.arg = some .local) (hN : N[0]? = some ar.arg) (hσ : σ[0]? = some (some (.ref a)))
    (hcode : K.lookup cda = some ⟨ccl, cdd, .fields fvs, ccs⟩) (hvs : fvs[2]? = some (.str file tf)) (hfile : (P.main.file == file) = true) (hcell : K.lookup cc = some ⟨cl, cld, .cell (some (.ref D)), csl⟩) (T : SupC K C D b0) (hmg : mg "super" = none) (htop : (P.main.scope.names.lookup ("super" : Str)).isSome = false) (e : H a = some (exo a C none))
    {pl : Sem Bool} (he : eval (.Call (.Attribute (.Call (.Name "super" p0) [] [] p1) "__init__" p2) [.Constant (.str txt) j p3] [] p4) (envS qual scope s.heap.objs.size f (.ref cda) cc) = (do
      let ov ← attributeBase (.Call (.Name "super" p0) [] [] p1) "__init__" (envS qual scope s.heap.objs.size f (.ref cda) cc) (eval (.Call (.Name "super" p0) [] [] p1) (envS qual scope s.heap.objs.size f (.ref cda) cc))
      standAt p2.atName
      let (f', first) ← holding [ov] (getMethod ov "__init__" pl)
      callWith p4 f' first (backTo p4 (starEach [.Constant (.str txt) j p3] (envS qual scope s.heap.objs.size f (.ref cda) cc))) []))
    (q : ∀ s', Inv (cxS P w K mg base N qual scope f (.ref cda) cc A outer s H0 E) [] σ H s' → Q .next s') :
    _root_.PySem.wpAt (model P w) (A.deeper (envS qual scope s.heap.objs.size f (.ref cda) cc)) (.func body (envS qual scope s.heap.objs.size f (.ref cda) cc)) (exec (.Expr (.Call (.Attribute (.Call (.Name "super" p0) [] [] p1) "__init__" p2) [.Constant (.str txt) j p3] [] p4) pos) (envS qual scope s.heap.objs.size f (.ref cda) cc)) Q E' s1 := by
  have KX : K.In s1.heap := I.kIn
  obtain ⟨m, hn, hlook⟩ := I.loc
  obtain ⟨u, ru, lk⟩ := hlook 0 ar.arg (.ref a) hN hσ (.inl har)
  have ru : u = .ref a := ru
  subst ru
  have hv : m ar.arg = some (.ref a) := by
    rcases lk with ⟨_, h⟩ | ⟨hk, _⟩
    · exact h
    · have hk : scope.names.lookup ar.arg = some .cell ∨ scope.names.lookup ar.arg = some .free := hk
      rw [har] at hk
      rcases hk with hk | hk <;> cases hk
  obtain ⟨t1, ho⟩ := exo_at I.hok e
  obtain ⟨cdD, hD⟩ := T.clsD
  obtain ⟨oD, hD1, hD2⟩ : ∃ oD, s1.heap.get? D = some oD ∧ oD.data = .cls cdD := by
    unfold PySem.W.clsIn at hD
    split at hD
    · rename_i c d cd' sl ho
      cases hD
      exact ⟨_, KX _ _ ho, rfl⟩
    · cases hD
  have hi : interactive (envS qual scope s.heap.objs.size f (.ref cda) cc) = false := I.quiet
  obtain ⟨hp, g, d, t, os⟩ := s1
  refine ks_wpAt_Expr_any (hi := hi) (ks_wpAt_MethodCall (pl := pl) (ks_wpAt_super_base S.sup S.cls (by decide) rfl (KX _ _ hf) rfl hpar rfl (KX _ _ hcode) rfl hvs hfile htop ?_) he)
  obtain ⟨mb, b1, b2⟩ := I.mod.blt
  refine PySem.W.ks_loadName_global S.kind S.sup (Calls.loadGlobal_builtin (I.mod.glob.keeps I.bk) hmg (b1.keeps I.bk) ((b2 "super" (by decide)).trans (by kernel_rfl : bootBuiltins "super" = some (.type "super"))) ⟨rfl, ?_⟩)
  refine wpAny_loadName_free S.kind S.cls rfl ⟨_, KX _ _ hcell, rfl⟩ ?_
  refine wpAny_loadName_local S.kind har hn hv ?_
  refine ks_wpAny_isType_cls hD1 hD2 ⟨rfl, ?_⟩
  refine ks_wpAny_call_super hD1 hD2 ho rfl (fun c z => by cases z) (PySem.W.looks_mroIn KX T.sub) (fun h' e' k => ?_)
  have I2 : Inv (cxS P w K mg base N qual scope f (.ref cda) cc A outer s H0 E) [] σ H ⟨h', g, d, t, os⟩ := I.kept (t' := t) k
  have ho2 := k _ _ ho
  have hin : PySem.W.InstAt h' a (PySem.W.excObj C t1 none .none) C none := ⟨ho2, rfl, rfl, trivial⟩
  obtain ⟨nm, qq, NN, bs, bm, sn, sub, ab, col, dd, k0, k1, k2, k3, k5, hC, hbm⟩ := T.oex.cls
  have hcl : ∃ cdC, PySem.W.clsIn K C = some cdC := by
    have := T.sup
    unfold PySem.W.ks_superIn at this
    cases z : PySem.W.clsIn K C with
    | none => rw [z] at this; cases this
    | some cdC => exact ⟨_, rfl⟩
  obtain ⟨cdC, hcC⟩ := hcl
  have hm := T.sup
  unfold PySem.W.ks_superIn at hm
  rw [hcC] at hm
  refine PySem.W.kxs_getMethod b0.kxs e' (PySem.W.looks_opaque I2.kIn T.nop) (l₀ := cdC.mro) (fun A Q E s k q => wpAny_bind ((PySem.W.looks_clsIn I2.kIn hcC) A _ E s k (wpAny_pure q))) rfl I2.kIn hm (hin.type.andThen (PySem.W.looks_subIn I2.kIn T.subV)) (PySem.W.ks_ne I2.kIn hin hcC) (by decide) ?_
  refine PySem.W.kxs_callWith (i := b0.ini) (x := a) rfl ?_
  refine Calls.evalArgs_plain ?_
  refine spliced_lits (pos := p4) (env := envS qual scope s.heap.objs.size f (.ref cda) cc) [.Constant (.str txt) j p3] [.str txt] _ _ rfl (fun vs tk hvs2 => ⟨Heap.get?_push_at rfl rfl, ?_⟩)
  have hlen : vs.length ≤ sizeLine := by
    cases hvs2 with
    | cons _ h =>
      cases h
      rw [sizeLine_eq]
      show 1 ≤ 16777216
      decide
  have I3 : Inv (cxS P w K mg base N qual scope f (.ref cda) cc A outer s H0 E) [] σ H ⟨h'.push (PySem.W.kxs_mw b0.ini a), g, d, tk, os⟩ := I2.kept (t' := tk) fun b o z => Heap.get?_push_of_some _ z
  refine call_mw T.oex I3.kIn (Heap.get?_push_at rfl rfl) (Heap.get?_push_of_some _ ho2) hlen fun t' h2 k2 e2 => q _ ?_
  have J := I3.write (t' := tk) (x := a) (e := a) (o := exo a C none) (by rw [e]; exact True.intro) (.inl rfl) k2 ⟨_, e2⟩ (exo_ok e2)
  have eu : upd H a (exo a C none) = H := by
    funext b
    by_cases hb : b = a
    · rw [hb, upd_same, e]
    · rw [upd_ne hb]
  rw [eu] at J
  exact J
/-- such a def, by the rest of its body -/
theorem sup_ok {x : Str} {params : Arguments} {rest : List Stmt} {fd : FuncData} {D : Addr} {ar : Arg} {k : Nat} {sp : Sp} {p0 p1 p2 p3 p4 pos : Pos} {txt : Str} {j : Nat} {pl : Sem Bool}
    (F : SupD P K x qual params (.Expr (.Call (.Attribute (.Call (.Name "super" p0) [] [] p1) "__init__" p2) [.Constant (.str txt) j p3] [] p4) pos :: rest) scope f fd D) (S : SupScope N ps scope) (hpar : (params.posonlyargs ++ params.args).head? = some ar) (har : scope.names.lookup ar.arg = some .local) (hN : N[0]? = some ar.arg)
    (hmg : mg "super" = none) (htop : (P.main.scope.names.lookup ("super" : Str)).isSome = false) (len : ∀ vs H Q E, sp vs H Q E → vs.length = ps.length) (first : ∀ vs H Q E, sp vs H Q E → ∃ a C vs' b0, vs = V.ref a :: vs' ∧ H a = some (exo a C none) ∧ SupC K C D b0)
    (he : ∀ env : Env, eval (.Call (.Attribute (.Call (.Name "super" p0) [] [] p1) "__init__" p2) [.Constant (.str txt) j p3] [] p4) env = (do
      let ov ← attributeBase (.Call (.Name "super" p0) [] [] p1) "__init__" env (eval (.Call (.Name "super" p0) [] [] p1) env)
      standAt p2.atName
      let (f', first) ← holding [ov] (getMethod ov "__init__" pl)
      callWith p4 f' first (backTo p4 (starEach [.Constant (.str txt) j p3] env)) []))
    (hrest : ∀ (cda cc : Addr) (A : Around) (outer : List Env) (s : Shared) (H : Hp) (vs : List V) (Q : VK) (E : XK), Room k (A.deeper (envS qual scope s.heap.objs.size f (.ref cda) cc)) → sp vs H Q E →
      ∃ t, PSs (cxS P w K mg base N qual scope f (.ref cda) cc A outer s H E) rest t ∧ t { nx := fun _ H' => Q .non H', rt := Q } (L2.start N vs) H) :
    FnOk P w K mg base (L2.CX P w) (k + 1) f fd ps sp := by
  obtain ⟨oc, od, kV, doc, pm, an, cda, ct, osl, cc, cl, cld, csl, ccl, cdd, fvs, ccs, file, tf, rfl, lk, hcd, hcode, hvs, hfile, hcell⟩ := F.ex
  refine ⟨len, fun A outer s H args us vs Q E hr e0 hb r hsp => ?_⟩
  have hl := len _ _ _ _ hsp
  obtain ⟨a, C, vs', b0, ev, ea, T⟩ := first _ _ _ _ hsp
  have KX : K.In s.heap := e0.mod.kin.keeps fun b o e => (e0.bs b o e).1
  have lim : s.heap.NoLimit := e0.mod.nolimit.keeps fun b o e => (e0.bs b o e).1
  refine ks_codeAny_call_defAt hr.depth (KX _ _ lk) rfl lim (PySem.W.codeRec_of KX hcd) rfl hb S.nocell (fun ⟨n, v⟩ hy => S.par n (List.of_mem_zip hy).1) (fun h1 hns hk => ?_) S.co S.gen S.kind
  have I : Inv (cxS P w K mg base N qual scope f (.ref cda) cc A outer s H E) [] (L2.start N vs) H { s with heap := h1, toks := s.toks + (ps.zip us).length } := inv_startS S hr.hd e0 hl r hcell hns hk _
  obtain ⟨t, ht, hq⟩ := hrest cda cc A outer s H vs Q E (hr.deeper _) hsp
  refine ks_wpAt_execs_cons ?_
  refine super_step I S lk hpar har hN (by rw [ev]; rfl) hcode hvs hfile hcell T hmg htop ea (he _) fun s' J => ?_
  refine wpAt_of_wpAny (wpAny_mono (ht.run [] s' (L2.start N vs) H _ J hq) (fun fl s2 hs => ?_) fun e s2 hs => hs)
  have back : ∀ {σ' : L2.St} {H' : Hp} {v : V} {u : Value}, Inv (cxS P w K mg base N qual scope f (.ref cda) cc A outer s H E) [] σ' H' s2 → RelV v u → Q v H' → CE outer P w H s Q u s2 := fun J rv q => ⟨_, _, J.os, J.bare, J.base, J.hok, rv, q⟩
  cases fl
  · obtain ⟨_, _, J, q⟩ := hs; exact back (v := .non) J rfl q
  · obtain ⟨_, _, _, q⟩ := hs; exact q.elim
  · obtain ⟨_, _, _, q⟩ := hs; exact q.elim
  · obtain ⟨_, _, _, J, rv, q⟩ := hs; exact back J rv q
end
end Dv

/-! DwAA: such errors' fields are stored; such errors are made, with or without arguments. -/
namespace Dv
open PySem PySem.Spec PyProof.Rows L2 Builtin Builtin.ObjectAttr
section
variable {K : PySem.W.Frag} {C : Addr} {b : EBase} {prog : Program} {w : World} {A : Around} {R : Result → Shared → Prop} {hp : Heap} {g : Array GenState} {dr : Drawn} {t : Nat} {os : OsState} {name : Str} {tk : Tok} {v : Value} {x dx : Addr} {fv : Array Value}
theorem OexN.over (T : OexN K C b) : PySem.W.excOver K C b.tail = true := by
  obtain ⟨nm, q, N, bs, bm, sn, sub, ab, col, dd, k0, k1, k2, k3, k5, hC, hbm⟩ := T.cls
  unfold PySem.W.excOver PySem.W.clsIn
  rw [hC]
  show ((C == C) && PySem.W.excTail b.tail bm) = true
  rw [hbm, Bool.and_true]
  exact beq_self_eq_true C
theorem OexN.look (T : OexN K C b) (M : Model) {h : Heap} (KX : K.In h) : ∃ cd, PySem.W.Looks M h (classData C) cd ∧ cd.hasDict = true := by
  obtain ⟨nm, q, N, bs, bm, sn, sub, ab, col, dd, k0, k1, k2, k3, k5, hC, hbm⟩ := T.cls
  refine ⟨⟨nm, bs, .ref C :: bm, N, q, true, sn, sub, ab, col, false⟩, PySem.W.looks_clsIn KX ?_, rfl⟩
  unfold PySem.W.clsIn
  rw [hC]
theorem taker_none (own : PySem.W.findIn K (.ref C) name = some none) : PySem.W.takerIn K C name = some none := by
  unfold PySem.W.takerIn
  rw [own]; rfl
/-- the first field -/
theorem field_first (T : OexN K C b) (KX : K.In hp) (at_ : hp.get? x = some { cls := .ref C, data := .fields fv }) (own : PySem.W.findIn K (.ref C) name = some none)
    (q : ∀ h2 tk2 dx, (∀ c o, c ≠ x → hp.get? c = some o → h2.get? c = some o) → hp.objs.size ≤ dx → dx ≠ x → h2.get? x = some { cls := .ref C, dict := some dx, data := .fields fv } → h2.Ns1 dx (fun y => if y = name then some v else none) → R (.ok (.ret .none)) ⟨h2, g, dr, tk2, os⟩) :
    codeAny (model prog w) A (.call (.builtin "object.__setattr__") ⟨[.ref x, .str name tk, v], []⟩) R ⟨hp, g, dr, t, os⟩ := by
  refine PySem.W.osa_openX (s := ⟨hp, g, dr, t, os⟩) b.store KX (od := none) ⟨at_, rfl, rfl, trivial⟩ T.over (taker_none own) fun bb => ?_
  obtain ⟨cd, lk, hd⟩ := T.look (model prog w) KX
  have fresh : x ≠ hp.objs.size := Nat.ne_of_lt (Heap.lt_size at_)
  obtain ⟨c1, c2, c3, c4, c5, c6, c7, c8, c9, c10, c11⟩ := cd
  cases hd
  unfold storeInOwnDict ownDictForStores
  repeat (first | with_reducible refine PySem.HandSPX.store_in_new ?_ ?_ | with_reducible refine wpAny_loadPart_at at_ ?_ | with_reducible refine lk.at ?_ | wp_step)
  · exact ⟨_, #[], _, (Heap.get?_update_ne _ _ _ _ (Ne.symm fresh)).trans (Heap.get?_push_at rfl rfl), rfl, (fun e he => absurd he (by simp)), fun _ => rfl⟩
  · intro h2 tk2 ns same
    have pushed : (hp.push { cls := .type "dict", data := .dict #[] }).get? x = some { cls := .ref C, data := .fields fv } := Heap.get?_push_of_some _ at_
    refine q h2 tk2 hp.objs.size (fun c o nc e => ?_) (Nat.le_refl _) (Ne.symm fresh) ((same.2 x fresh).trans (Heap.get?_update_self _ pushed rfl)) ns
    rw [same.2 c (Nat.ne_of_lt (Heap.lt_size e)), Heap.get?_update_ne _ _ _ _ nc]
    exact Heap.get?_push_of_some _ e
/-- a further field -/
theorem field_more {m0 : Str → Option Value} {nl : List Str} (T : OexN K C b) (KX : K.In hp) (at_ : hp.get? x = some { cls := .ref C, dict := some dx, data := .fields fv }) (ns : hp.Ns1 dx m0) (wi : Within m0 nl) (few : nl.length ≤ 1000) (own : PySem.W.findIn K (.ref C) name = some none)
    (q : ∀ h2 tk2, (∀ c o, c ≠ dx → hp.get? c = some o → h2.get? c = some o) → h2.Ns1 dx (fun y => if y = name then some v else m0 y) → R (.ok (.ret .none)) ⟨h2, g, dr, tk2, os⟩) :
    codeAny (model prog w) A (.call (.builtin "object.__setattr__") ⟨[.ref x, .str name tk, v], []⟩) R ⟨hp, g, dr, t, os⟩ := by
  obtain ⟨od, _, _, there, _, _⟩ := ns.count wi
  refine PySem.W.osa_openX (s := ⟨hp, g, dr, t, os⟩) b.store KX (od := some od) ⟨at_, rfl, rfl, there⟩ T.over (taker_none own) fun bb => ?_
  obtain ⟨cd, lk, hd⟩ := T.look (model prog w) KX
  obtain ⟨c1, c2, c3, c4, c5, c6, c7, c8, c9, c10, c11⟩ := cd
  cases hd
  unfold storeInOwnDict ownDictForStores
  repeat (first | with_reducible refine PySem.OEX.store_in_old ns wi few ?_ | with_reducible refine wpAny_loadPart_at at_ ?_ | with_reducible refine lk.at ?_ | wp_step)
  intro h2 tk2 ns2 same
  exact q h2 tk2 (fun c o nc e => (same.2 c nc).trans e) ns2
end
section
variable {X : Cx} {pins : List (Addr × Obj)} {σ : L2.St} {H : Hp} {s : Shared} {a C dx : Addr} {b : EBase} {f : Str} {y : V} {u : Value} {fs : List (Str × V)} {Q : Unit → Shared → Prop} {E : Value → Shared → Prop} {A : Around}
theorem set_first (T : OexN X.K C b) (I : Inv X pins σ H s) (e : H a = some (exo a C none)) (own : PySem.W.findIn X.K (.ref C) f = some none) (ry : RelV y u)
    (q : ∀ dx s2, H dx = none → dx ≠ a → Inv X pins σ (upd (upd H dx (exd dx [(f, y)])) a (exo a C (some dx))) s2 → Q () s2) : wpAny (model X.prog X.w) A (setAttr (.ref a) f u) Q E s := by
  obtain ⟨t1, at_⟩ := exo_at I.hok e
  obtain ⟨hp, g, dr, t, os⟩ := s
  refine PySem.W.set_plain I.kIn (od := none) ⟨at_, rfl, rfl, trivial⟩ T.sa (field_first T I.kIn at_ own fun h2 tk2 dx keep new ne at2 ns => ?_)
  have nd : H dx = none := I.hok.fresh new
  have old_ne : ∀ {c : Addr} {o : Obj}, hp.get? c = some o → c ≠ dx := fun z => Nat.ne_of_lt (Nat.lt_of_lt_of_le (Heap.lt_size z) new)
  have no_a : ∀ {c : Addr}, H c = none → c ≠ a := fun n z => by rw [z, e] at n; cases n
  have same : ∀ {c : Addr} {o : HO}, H c = some o → exo a C none ≠ o → upd (upd H dx (exd dx [(f, y)])) a (exo a C (some dx)) c = H c := fun {c o} z d => by
    rw [upd_ne (at_ne e z d), upd_ne (ne_of_none z nd)]
  refine q dx _ nd ne (I.un (t' := tk2) ⟨fun c o z n _ _ => keep c o (no_a n) z, fun c o z n _ _ => ⟨o.slots, keep c o (no_a n) z⟩, fun c o z n _ => ?_, fun c o z _ => ?_, fun c xs z => ?_, fun c o v z => ?_, fun c ps z => ⟨#[], ?_⟩⟩ fun c o z => ?_)
  · rw [upd_ne (no_a n), upd_ne (old_ne z)]; exact n
  · by_cases h : c = a
    · exact ⟨_, h ▸ at2⟩
    · exact ⟨o, keep c o h z⟩
  · rw [same z exo_tup]; exact z
  · rw [same z exo_frz]; exact z
  · rw [same z exo_tbl, z]; simp
  · by_cases h : c = a
    · rw [h] at z ⊢
      rw [upd_same] at z
      cases z
      exact exo_ok at2
    · rw [upd_ne h] at z
      by_cases h2 : c = dx
      · rw [h2] at z ⊢
        rw [upd_same] at z
        cases z
        exact exd_ok ns (relO_put (fs := []) ry fun _ => True.intro)
      · rw [upd_ne h2] at z
        refine (I.hok c o z).stay (fun d v hd => keep d v ?_) (fun d hd => ?_) fun d xs hd => ?_
        · rcases hd with hd | hd
          · exact fun z2 => h (hd ▸ z2)
          · exact at_ne e hd exo_own
        · rw [same hd exo_own]; exact hd
        · rw [same hd exo_tup]; exact hd
theorem set_more (T : OexN X.K C b) (I : Inv X pins σ H s) (e : H a = some (exo a C (some dx))) (ed : H dx = some (exd dx fs)) (few : fs.length ≤ 900) (own : PySem.W.findIn X.K (.ref C) f = some none) (ry : RelV y u)
    (q : ∀ s2, Inv X pins σ (upd H dx (exd dx ((f, y) :: fs))) s2 → Q () s2) : wpAny (model X.prog X.w) A (setAttr (.ref a) f u) Q E s := by
  obtain ⟨t1, at_⟩ := exo_at I.hok e
  obtain ⟨mA, ns, rel⟩ := exd_at I.hok ed
  have wi := within_of rel
  obtain ⟨hp, g, dr, t, os⟩ := s
  obtain ⟨od, _, _, there, _, _⟩ := ns.count wi
  refine PySem.W.set_plain I.kIn (od := some od) ⟨at_, rfl, rfl, there⟩ T.sa (field_more T I.kIn at_ ns wi (by rw [List.length_map]; omega) own fun h2 tk2 keep ns2 => ?_)
  refine q _ (I.write (t' := tk2) (x := dx) (e := dx) (o := exd dx ((f, y) :: fs)) (by rw [ed]; exact True.intro) (.inl rfl) keep ?_ (exd_ok ns2 (relO_put ry rel)))
  obtain ⟨o, _, _, z, _⟩ := ns2
  exact ⟨o, z⟩
end
/-- self.f = e, over any of these bases -/
def tSt (K : PySem.W.Frag) (f : Str) (to te : TE) : TS := fun D σ H => te σ H fun y H1 => to σ H1 fun x H2 => ∃ (a C : Addr) (b : EBase), x = .ref a ∧ OexN K C b ∧ PySem.W.findIn K (.ref C) f = some none ∧
  ((H2 a = some (exo a C none) ∧ ∀ dx, H2 dx = none → dx ≠ a → D.nx σ (upd (upd H2 dx (exd dx [(f, y)])) a (exo a C (some dx)))) ∨
    ∃ (dx : Addr) (fs : List (Str × V)), H2 a = some (exo a C (some dx)) ∧ H2 dx = some (exd dx fs) ∧ fs.length ≤ 900 ∧ D.nx σ (upd H2 dx (exd dx ((f, y) :: fs))))
section
variable {X : Cx} {o e : Expr} {es : List Expr} {to te : TE} {ta : TA} {f x : Str} {p p' pos : Pos}
theorem ps_st (ho : PE X o to) (he : PE X e te) (sw : swapsWith e (some (.Attribute o f p')) pos.line X.env = pure false) : PS X (.Assign [.Attribute o f p'] e pos) (tSt X.K f to te) := by
  constructor
  intro pins s σ H D I h
  refine plainObj_wpAny_Assign_Attribute (thn (he.run pins s σ H _ I h) ?_) sw
  rintro v s1 ⟨y, H1, I1, r1, q1⟩
  refine thn (ho.run pins s1 σ H1 _ I1 q1) ?_
  rintro u s2 ⟨_, H2, I2, r2, a, C, b, rfl, T, own, q⟩
  have eu : u = Value.ref a := r2
  subst eu
  rcases q with ⟨ea, q⟩ | ⟨dx, fs, ea, ed, few, q⟩
  · exact set_first T I2 ea own r1 fun dx s3 n ne J => ⟨σ, _, J, q dx n ne⟩
  · exact set_more T I2 ea ed few own r1 fun s3 J => ⟨σ, _, J, q⟩
/-- the object is laid, its own init runs -/
theorem made_by {CX : CXT} {pins : List (Addr × Obj)} {σ : L2.St} {H1 : Hp} {s1 : Shared} {C fI : Addr} {b : EBase} {k : Nat} {fd : FuncData} {ps : List Str} {sp : Sp} {us : List Value} {vs : List V} {Q : XK} (T : OexN X.K C b) (iC : PySem.W.findIn X.K (.ref C) "__init__" = some (some (.ref fI))) (tI : PySem.W.typeIn X.K (.ref fI) = some (.type "function"))
    (F1 : FnOk X.prog X.w X.K X.mg X.base CX k fI fd ps sp) (hr : Room (k + 1) X.A) (hb : Binds X.K fd ps []) (nox : Passes CX X (fun _ _ _ => False)) (I1 : Inv X pins σ H1 s1) (r1 : Vals vs us) (few : vs.length ≤ 1000)
    (told : ∀ a, H1 a = none → sp (.ref a :: vs) (upd H1 a (exo a C none)) (fun v H2 => v = .non ∧ ∃ (d : Addr) (fs : List (Str × V)), H2 a = some (exo a C (some d)) ∧ H2 d = some (exd d fs) ∧ H1 d = none ∧ Q (.ref C) (some d) (upd (del H2 a) d (.xd fs))) (fun _ _ _ => False)) :
    wpAny (model X.prog X.w) X.A (call (.ref C) us) (fun u s2 => MkP X pins σ Q u s2) X.xe s1 := by
  obtain ⟨nm, q, N, bs, bm, sn, sub, ab, col, dd, k0, k1, k2, k3, k5, hC, tail⟩ := T.cls
  obtain ⟨hp, g, dr, tk, os⟩ := s1
  have up : hp.objs.size ≤ hp.objs.size + 1 := Nat.le_succ _
  have told := told _ (I1.hok.fresh up)
  have grown : ∀ c o, hp.get? c = some o → ((hp.push (PySem.W.kdv_tup us)).push (PySem.HandSPX.excO C hp.objs.size)).get? c = some o := fun c o z => Heap.get?_push_of_some _ (Heap.get?_push_of_some _ z)
  have there : ((hp.push (PySem.W.kdv_tup us)).push (PySem.HandSPX.excO C hp.objs.size)).get? (hp.objs.size + 1) = some (PySem.HandSPX.excO C hp.objs.size) := by heap_get
  have J := I1.laid (t' := tk) (o := exo (hp.objs.size + 1) C none) grown up (exo_ok there)
  have r2 : Vals (V.ref (hp.objs.size + 1) :: vs) (Value.ref (hp.objs.size + 1) :: us) := .cons rfl r1
  have all : (Value.ref (hp.objs.size + 1) :: us).length = ps.length := by rw [← F1.len _ _ _ _ told]; exact r2.length.symm
  have bind := hb ⟨_, g, dr, tk, os⟩ _ J.kIn (by rw [List.append_nil]; exact all)
  rw [List.append_nil] at bind
  have short : us.length ≤ sizeLine := by rw [← Paired.length r1, sizeLine_eq]; omega
  refine wpAny_call (PySem.HandSPX.call_own b.facts (fun Y => PySem.W.excTail_contains Y bm tail) (I1.kIn _ _ hC) (PySem.W.looks_findIn I1.kIn iC) (fun self => PySem.W.bind_fn I1.kIn self tI) short ?_)
  refine codeAny_mono (F1.run _ X.stack _ _ _ _ _ _ _ (hr.make C us []) (J.env0.make C us []) bind r2 told) fun r s2 out => ?_
  match r, out with
  | .error er, out => exact nox pins σ _ _ er s2 J out
  | .ok .next, out => exact False.elim out
  | .ok .brk, out => exact False.elim out
  | .ok .cont, out => exact False.elim out
  | .ok (.ret u), out =>
    obtain ⟨_, H2, o2, bare, un, hok, rv, rfl, d, fs, ea, ed, nd, z⟩ := out
    exact ⟨rv, mk_end (raises_own T.exC T.tyC) I1 up grown un hok o2 bare ea ed nd z⟩
/-- C(e, ..), told so -/
theorem pmk_n {CX : CXT} {C fI : Addr} {b : EBase} {k : Nat} {fd : FuncData} {ps : List Str} {sp : Sp} (T : OexN X.K C b) (iC : PySem.W.findIn X.K (.ref C) "__init__" = some (some (.ref fI))) (tI : PySem.W.typeIn X.K (.ref fI) = some (.type "function"))
    (F1 : FnOk X.prog X.w X.K X.mg X.base CX k fI fd ps sp) (hr : Room (k + 1) X.A) (hb : Binds X.K fd ps []) (nox : Passes CX X (fun _ _ _ => False)) (hg : Gl X x) (hm : X.mg x = some (.ref C)) (ha : PA X (e :: es) ta)
    (hdb : (x == ("__debug__" : Str)) = false) (he : starEach (e :: es) X.env = (false, eval e X.env) :: starEach es X.env) (hpl : (backTo pos (starEach es X.env)).any (·.1) = false) : PMk X (.Call (.Name x p) (e :: es) [] pos) (tMkO C sp [] ta) := by
  intro pins s σ H Q I h
  apply wpAny_Call_Name_kw (ld_glob I hg hm ?_ hdb)
  apply PySem.W.callWith_K (h₀ := X.base) I.ok.mod.kin T.kC ?_ he hpl
  refine thn (ha.run pos pins s σ H _ I h) fun us s1 ⟨vs, H1, I1, r1, few, told⟩ => ⟨I1.kIn, ?_⟩
  exact made_by T iC tI F1 hr hb nox I1 r1 few fun c n => by have := told c n; rwa [List.append_nil] at this
/-- C(), told so -/
theorem pmk_0 {CX : CXT} {C fI : Addr} {b : EBase} {k : Nat} {fd : FuncData} {ps : List Str} {sp : Sp} (T : OexN X.K C b) (iC : PySem.W.findIn X.K (.ref C) "__init__" = some (some (.ref fI))) (tI : PySem.W.typeIn X.K (.ref fI) = some (.type "function"))
    (F1 : FnOk X.prog X.w X.K X.mg X.base CX k fI fd ps sp) (hr : Room (k + 1) X.A) (hb : Binds X.K fd ps []) (nox : Passes CX X (fun _ _ _ => False)) (hg : Gl X x) (hm : X.mg x = some (.ref C))
    (hdb : (x == ("__debug__" : Str)) = false) : PMk X (.Call (.Name x p) [] [] pos) (tMkO C sp [] fun σ H Q => Q [] H) := by
  intro pins s σ H Q I ⟨few, told⟩
  apply wpAny_Call_Name_kw (ld_glob I hg hm ?_ hdb)
  exact PySem.W.callWith_K0 I.kIn T.kC (made_by T iC tI F1 hr hb nox I .nil few fun c n => told c n)
end
end Dv

/-! DwB: own errors as values: what can be raised can be held, its fields read. -/
namespace Dv
open PySem PySem.Spec PyProof.Rows L2
theorem exv_ok {P : Program} {w : World} {H : Hp} {h : Heap} {a C d : Addr} {oe : Obj} {vs : Array Value} (ha : h.get? a = some oe) (hc : oe.cls = .ref C) (hd : oe.dict = some d) (hf : oe.data = Data.fields vs) : ObjOk P w H h a (exv a C d) := by
  refine ⟨⟨oe, vs, ha, hc, hd, hf⟩, ⟨oe, ha⟩, ?_⟩
  rintro g1 g2 ⟨o, v, q1, q2⟩ keep
  exact ⟨o, v, keep o q1, q2⟩
theorem exv_at {P : Program} {w : World} {H : Hp} {h : Heap} {a C d : Addr} (hok : HOk P w H h) (he : H a = some (exv a C d)) : ∃ oe vs, h.get? a = some oe ∧ oe.cls = .ref C ∧ oe.dict = some d ∧ oe.data = Data.fields vs :=
  (show _ ∧ _ from hok a _ he).1
/-- an error that is made stands as a value -/
def tHeld (t : L2.St → Hp → XK → Prop) : TE := fun σ H Q => t σ H fun cls d H1 => ∃ C dd : Addr, cls = .ref C ∧ d = some dd ∧ ∀ a, H1 a = none → Q (.ref a) (upd H1 a (exv a C dd))
theorem pe_held {X : Cx} {e : Expr} {t : L2.St → Hp → XK → Prop} (h : PMk X e t) : PE X e (tHeld t) := by
  constructor
  intro pins s σ H Q I hq
  refine thn (h pins s σ H _ I hq) fun u s' made => ?_
  obtain ⟨a, oe, vs, sI, H', cls, d, eu, J, grown, free, there, ⟨z1, z2⟩, data, _, none', hos, hbare, _, C, dd, ec, ed, q⟩ := made
  subst eu ec ed
  have J' : Inv X pins σ (upd H' a (exv a C dd)) s' := by
    have U : Un X.fs [] H' (upd H' a (exv a C dd)) sI.heap s'.heap := Un.laidN grown free none'
    have K' : HOk X.prog X.w (upd H' a (exv a C dd)) s'.heap := J.hok.laidN grown none' (exv_ok there z1 z2 data)
    exact J.call' (ch := []) hos ⟨fun b o x y f g => grown b o x, fun b o x y f g => ⟨o.slots, grown b o x⟩, U.free, U.there, U.tups, U.frzs, U.tbls⟩ K' hbare fun b z => absurd z List.not_mem_nil
  exact ⟨.ref a, _, J', rfl, q a none'⟩
/-- e.f, e an error of ours -/
def tXv (K : PySem.W.Frag) (f : Str) (te : TE) : TE := fun σ H Q => te σ H fun x H1 => ∃ (a C d : Addr) (fs : List (Str × V)) (v : V), x = .ref a ∧ XfC K C ∧ PySem.W.findIn K (.ref C) f = some none ∧ H1 a = some (exv a C d) ∧ H1 d = some (.xd fs) ∧ fs.lookup f = some v ∧ Q v H1
theorem pe_xv {X : Cx} {e : Expr} {te : TE} {pos : Pos} {n : Str} (he : PE X e te) (plain : attributeBase e n X.env (eval e X.env) = eval e X.env := by rfl) : PE X (.Attribute e n pos) (tXv X.K n te) := by
  constructor
  intro pins s σ H Q I hq
  refine attr_of plain (thn (he.run pins s σ H _ I hq) fun u s1 back => ?_)
  obtain ⟨x, H1, J, rel, a, C, d, fs, v, rfl, T, own, ea, ed, known, q⟩ := back
  have eu : u = Value.ref a := rel
  subst eu
  obtain ⟨oe, vs, at_, cl, di, data⟩ := exv_at J.hok ea
  obtain ⟨mA, ns, fields⟩ := (show ∃ mA, s1.heap.Ns1 d mA ∧ ∀ f, RelO (fs.lookup f) (mA f) from J.hok d _ ed)
  obtain ⟨od, got, look⟩ := lookIn_ns ns
  obtain ⟨r, hr, rr⟩ := RelO.some_of (v := v) (o := mA n) (known ▸ fields n)
  have inst : PySem.W.InstAt s1.heap a oe C (some od) := ⟨at_, cl, by unfold PySem.W.notCls; rw [data], by rw [di]; exact got⟩
  refine HandSPX.exc_get J.kIn inst T.ga T.gg T.exC (PySem.W.findObj_own T.hdC own rfl ?_) (handed_of rr) ⟨v, H1, J.tok _, rr, q⟩
  rw [look, hr]
end Dv

/-! DwC: what a caught error is, by itself; try with one clause for three classes at once, the error by a name. -/
namespace Dv
open PySem PySem.Spec PyProof.Rows L2
/-- the error at a has been caught in X's def: the state behind it, and the error in flight over the ground B -/
def Caught (X : Cx) (pins : List (Addr × Obj)) (a : Addr) (cls : Value) (d : Option Addr) (σ : L2.St) (H : Hp) (s : Shared) : Prop :=
  ∃ (B : Heap) (sI : Shared), Inv X pins σ H sI ∧ (∀ b o, sI.heap.get? b = some o → b ∉ frs X.stack → B.get? b = some o) ∧ sI.heap.UpToSlots s.heap ∧ HandSPX.FlyingZ B (X.env :: X.outer) a (Zc cls d) s.heap ∧ H a = none ∧ s.os = sI.os ∧ AllBare s.gens
section
variable {X : Cx} {pins : List (Addr × Obj)} {a : Addr} {cls : Value} {d : Option Addr} {σ : L2.St} {H : Hp} {s : Shared}
theorem Caught.inv (c : Caught X pins a cls d σ H s) : Inv X pins σ H s :=
  let ⟨_, _, J, nb, up, fl, _, os, ag⟩ := c
  J.landed nb fl.1 up os ag
theorem Caught.none_ (c : Caught X pins a cls d σ H s) : H a = none := let ⟨_, _, _, _, _, _, z, _⟩ := c; z
theorem Caught.grow {h' : Heap} (c : Caught X pins a cls d σ H s) (k : ∀ b o, s.heap.get? b = some o → h'.get? b = some o) : Caught X pins a cls d σ H { s with heap := h' } := by
  obtain ⟨B, sI, J, nb, up, ⟨f1, f2, f3, oe, vs, T, oT, ts, g1, g2, g3, g4, g5, g6, g7, g8, g9⟩, z, os, ag⟩ := c
  refine ⟨B, sI, J, nb, up.trans fun b o e _ => ⟨o.slots, k b o e⟩, ⟨fun b o e => k b o (f1 b o e), f2, ?_, oe, vs, T, oT, ts, k _ _ g1, g2, g3, g4, g5, g6, k _ _ g7, g8, g9⟩, z, os, ag⟩
  exact f3.of_keeps fun b o e _ => ⟨o, k b o e, rfl⟩
/-- the object, and the suite's state -/
theorem Caught.suite (c : Caught X pins a cls d σ H s) (hs : X.stack = X.env :: X.outer) (hf : X.env.frame = some X.env.locals) :
    ∃ oe : Obj, s.heap.get? a = some oe ∧ Zc cls d oe ∧ (∃ vs, oe.data = .fields vs) ∧ Inv (X.suite a ((a, oe) :: (X.pn ++ pins))) [] σ H s := by
  have J := c.inv
  obtain ⟨B, _, _, _, _, fl, z, _, _⟩ := c
  obtain ⟨oe, vs, at_, zc, data⟩ := fl.there
  have off : a ∉ frs X.stack := by
    rw [hs]
    intro m
    obtain ⟨_, o, e, nf⟩ := fl.2.2.1.mem m
    exact nf vs (by rw [← Option.some.inj (at_.symm.trans e)]; exact data)
  have off1 : a ≠ X.env.locals := by
    rintro rfl
    exact off (by rw [hs]; exact List.mem_filterMap.mpr ⟨_, .head _, hf⟩)
  have off2 : a ∉ X.fs := by
    intro m
    obtain ⟨v, v1, v2⟩ := List.mem_filterMap.mp m
    exact off (by rw [hs]; exact List.mem_filterMap.mpr ⟨v, .tail _ v1, v2⟩)
  exact ⟨oe, at_, zc, ⟨vs, data⟩, J.suite at_ data z off1 off2⟩
/-- the error joins what is tracked, as a value -/
theorem Caught.value {C dd : Addr} (c : Caught X pins a (.ref C) (some dd) σ H s) (hs : X.stack = X.env :: X.outer) (hf : X.env.frame = some X.env.locals) (hex : X.ex = []) : Inv (X.suite a (X.pn ++ pins)) [] σ (upd H a (exv a C dd)) s := by
  obtain ⟨oe, at_, zc, ⟨vs, data⟩, S⟩ := c.suite hs hf
  have J := c.inv
  obtain ⟨B, sI, JI, nb, _, fl, z, _, _⟩ := c
  have off : a ∉ frs X.stack := by
    rw [hs]
    intro m
    obtain ⟨_, o, e, nf⟩ := fl.2.2.1.mem m
    exact nf vs (by rw [← Option.some.inj (at_.symm.trans e)]; exact data)
  have newI : sI.heap.get? a = none := by
    cases e : sI.heap.get? a with
    | none => rfl
    | some o => exact absurd (nb a o e off) (by rw [fl.2.1]; simp)
  have new0 : ∀ b o, X.s_0.heap.get? b = some o → b ≠ a := by
    rintro b o e rfl
    obtain ⟨o', e'⟩ := JI.base.there b o e (by rw [hex]; simp)
    rw [newI] at e'; cases e'
  have ne : ∀ {b : Addr} {u : HO}, H b = some u → b ≠ a := fun {b u} e q => by rw [q, z] at e; cases e
  have was := S.pin (a, oe) (List.mem_append_left _ (.head _))
  refine ⟨J.ok.suite a _, S.os, S.bare, ⟨J.base.keep, J.base.slot, fun b o e n x => ?_, J.base.there, fun b xs e => ?_, fun b o u e => ?_, fun b ps e => ?_⟩, S.loc, S.cell, ?_, fun x c' e => ?_, fun p hp => ?_, J.hok.laidN (fun _ _ y => y) z (exv_ok at_ zc.1 zc.2 data), S.len⟩
  · rw [upd_ne (new0 b o e)]; exact J.base.free b o e n x
  · have q := J.base.tups b xs e
    rw [upd_ne (ne q)]; exact q
  · have q := J.base.frzs b o u e
    rw [upd_ne (ne q)]; exact q
  · obtain ⟨more, q⟩ := J.base.tbls b ps e
    exact ⟨more, by rw [upd_ne (ne q)]; exact q⟩
  · have q : X.env.locals ≠ a := fun e => was.2.2.1 e.symm
    show upd H a _ X.env.locals = none
    rw [upd_ne q]; exact J.free
  · have q : c' ≠ a := by
      rintro rfl
      obtain ⟨v, o, e1, e2⟩ := S.cell x c' e
      rw [at_] at e1; cases e1
      exact was.2.2.2.2 _ e2
    rw [upd_ne q]; exact S.freeC x c' e
  · have hp' : p ∈ X.pn ++ pins := by simpa using hp
    have q := J.pin p hp'
    have q0 := (JI.pin p hp').1
    have n : p.1 ≠ a := fun e => by rw [e, newI] at q0; cases q0
    exact ⟨q.1, by rw [upd_ne n]; exact q.2.1, q.2.2⟩
/-- behind the suite -/
theorem unsuite_ {σ' : L2.St} {H' : Hp} (S : Inv (X.suite a (X.pn ++ pins)) [] σ' H' s) (ok : X.Ok) : Inv X pins σ' H' s :=
  ⟨ok, S.os, S.bare, S.base, S.loc, S.cell, S.free, S.freeC, fun p hp => S.pin p (List.mem_append_left _ hp), S.hok, S.len⟩
/-- it comes to rest -/
theorem Caught.rest {M : Model} {A : Around} {E : Value → Shared → Prop} {Q : Unit → Shared → Prop} (c : Caught X pins a cls d σ H s) (q : ∀ h', Caught X pins a cls d σ H { s with heap := h' } → Q () { s with heap := h' }) : wpAny M A (setFlight (.ref a) none) Q E s := by
  obtain ⟨B, sI, J, nb, up, fl, z, os, ag⟩ := c
  exact HandSPX.lands_againZ fl fun h' fl' up' => q h' ⟨B, sI, J, nb, up.trans up', fl', z, os, ag⟩
/-- it goes on -/
theorem Caught.on {W : WX} {Q : Flow → Shared → Prop} (c : Caught X pins a cls d σ H s) (hs : X.stack = X.env :: X.outer) (hf : X.env.frame = some X.env.locals) (tk : Takes X W) (w : W cls d σ H) : wpAny (model X.prog X.w) X.A (handleBy (.ref a) X.env []) Q X.xe s := by
  refine wpAny_handleBy_nil ?_
  obtain ⟨B, sI, J, nb, up, fl, z, os, ag⟩ := c
  obtain ⟨_, _, _, oe, vs, T, _, _, at_, _, data, second, _⟩ := id fl
  unfold PySem.passOn
  refine wpAny_bind (wpAny_field at_ data second ?_)
  have some_ : ¬ ((Value.ref T == Value.none) = true) := by simp
  rw [if_neg some_]
  have go : wpAny (model X.prog X.w) X.A (setFlight (.ref a) (some X.env.locals)) (fun _ s4 => wpAny (model X.prog X.w) X.A (throw (.ref a) : Sem Flow) Q X.xe s4) X.xe s := by
    refine HandSPX.setFlight_upZ fl fun h4 held up4 => wpAny_throw (tk _ _ ?_)
    exact ⟨a, B, sI, pins, σ, H, cls, d, rfl, J, nb, up.trans up4, .inr (.inr (hs ▸ held)), z, os, ag, w⟩
  rw [← hf] at go
  first
    | exact wpAny_bind (wpAny_pure (wpAny_bind go))
    | exact wpAny_bind go
/-- out of the try's body -/
theorem caught_of {xe : Value → Shared → Prop} {W : WX} {u : Value} {Q : Unit → Shared → Prop} {E : Value → Shared → Prop} (ok : X.Ok) (hs : X.stack = X.env :: X.outer) (hf : X.env.frame = some X.env.locals) (x : XE (X.tr (X.pn ++ pins) xe) W u s)
    (q : ∀ a cls d σ H s3, u = .ref a → W cls d σ H → Caught X pins a cls d σ H s3 → Q () s3) : wpAny (model X.prog X.w) X.A (noteFrame u X.env) (fun _ s3 => wpAny (model X.prog X.w) X.A (setFlight u none) Q E s3) E s := by
  obtain ⟨a, B, sI, _, σ, H, cls, d, rfl, J, nb, up, sky, z, os, ag, w⟩ := x
  have sky2 : Sky B (X.env :: X.outer) a (Zc cls d) X.env.locals s.heap := hs ▸ sky
  have fr : X.A.frames = some (X.env :: X.outer) := hs ▸ ok.frames
  refine Sky.land Zc.steady fr hf sky2 fun h3 fl up3 => q a cls d σ H _ rfl w ⟨B, sI, J.ofTry ok, nb, up.trans up3, fl, z, os, ag⟩
end
/-! ### except (A, B, C) as n -/
def wTup (K : PySem.W.Frag) (cs : List Value) (i : Nat) (ts : TS) (Wout : WX) (De : Ends) : WX := fun cls d σ H =>
  ∃ b, PySem.W.exmAny K cls cs = some b ∧ (if b = true then ∃ C dd : Addr, cls = .ref C ∧ d = some dd ∧ ∀ a, H a = none → ts ⟨fun σ' => De.nx (σ'.set i none), De.rt, fun σ' => De.bk (σ'.set i none), fun σ' => De.ct (σ'.set i none)⟩ (σ.set i (some (.ref a))) (upd H a (exv a C dd)) else Wout cls d σ H)
section
variable {X : Cx} {i : Nat} {n x1 x2 x3 : Str} {c1 c2 c3 : Value} {body suite : List Stmt} {b₀ : Stmt} {q1 q2 q3 tp pos pos' : Pos} {kk : Nat} {tb : WX → TS} {ts : TS} {Wout : WX}
/-- the three classes, side by side in a new tuple -/
theorem tuple3 {pins : List (Addr × Obj)} {σ : L2.St} {H : Hp} {s : Shared} {M : Value → Shared → Prop} {E : Value → Shared → Prop} (I : Inv X pins σ H s) (hc1 : Names X x1 c1) (hc2 : Names X x2 c2) (hc3 : Names X x3 c3)
    (q : M (.ref s.heap.objs.size) { s with heap := s.heap.push { cls := .type "tuple", data := .seq [c1, c2, c3].toArray } }) : wpAny (model X.prog X.w) X.A (eval (.Tuple [.Name x1 q1, .Name x2 q2, .Name x3 q3] kk tp) X.env) M E s := by
  have one : ∀ {x : Str} {c : Value} {p : Pos} {M' : Value → Shared → Prop}, Names X x c → M' c s → wpAny (model X.prog X.w) X.A (eval (.Name x p) X.env) M' E s := by
    rintro x c p M' ⟨g1, g2, g3⟩ hM
    rcases g3 with g | ⟨g, g', g''⟩
    · exact ld_glob I g1 g hM g2
    · exact ld_blt I g1 g g' hM g'' g2
  refine wpAny_Tuple_spliced (spliced_more (one hc1 ?_))
  refine spliced_more (one hc2 ?_)
  refine spliced_more (one hc3 ?_)
  exact spliced_none ⟨by rw [sizeLine_eq]; show 3 ≤ 16777216; decide, q⟩
theorem ps_try_tup3 (hs : X.stack = X.env :: X.outer) (hf : X.env.frame = some X.env.locals) (hex : X.ex = []) (hN : X.N.Nodup) (hi : X.N[i]? = some n) (hln : X.env.kindOf n = some .local) (hc1 : Names X x1 c1) (hc2 : Names X x2 c2) (hc3 : Names X x3 c3) (tk : Takes X Wout)
    (hb : ∀ (W : WX) (pn : List (Addr × Obj)) (xe : Value → Shared → Prop), Takes (X.tr pn xe) W → PassesOwn (model X.prog X.w) X.A X.env xe → PSs (X.tr pn xe) body (tb W))
    (hsu : ∀ (a : Addr) (pn : List (Addr × Obj)), PSs (X.suite a pn) (b₀ :: suite) ts) :
    PS X (.Try body [.ExceptHandler (some (.Tuple [.Name x1 q1, .Name x2 q2, .Name x3 q3] kk tp)) (some n) (b₀ :: suite) pos'] [] [] pos) (fun De σ H => tb (wTup X.K [c1, c2, c3] i ts Wout De) De σ H) := by
  constructor
  intro pins s σ H De I h
  have ok := I.ok
  apply wpAny_Try_except
  let hd := [ExceptHandler.ExceptHandler (some (.Tuple [.Name x1 q1, .Name x2 q2, .Name x3 q3] kk tp)) (some n) (b₀ :: suite) pos']
  let xe : Value → Shared → Prop := fun e s₁ => wpAny (model X.prog X.w) X.A (noteFrame e X.env) (fun _ s₂ => wpAny (model X.prog X.w) X.A (setFlight e none) (fun _ s₃ => wpAny (model X.prog X.w) X.A (handleBy e X.env hd) (SP X pins De) X.xe s₃) X.xe s₂) X.xe s₁
  have takes : Takes (X.tr (X.pn ++ pins) xe) (wTup X.K [c1, c2, c3] i ts Wout De) := by
    intro u s' x
    refine caught_of (pins := pins) ok hs hf x fun a cls d σ' H' s3 eu ⟨b, told, w⟩ c => ?_
    subst eu
    obtain ⟨oe, at_, zc, data, S⟩ := c.suite hs hf
    refine wpAny_handleBy_cons (codeAny_handlers_test (tuple3 (X := X.suite a ((a, oe) :: (X.pn ++ pins))) S hc1 hc2 hc3 ?_)) (by rintro ⟨⟩)
    have grown : ∀ b o, s3.heap.get? b = some o → (s3.heap.push { cls := .type "tuple", data := .seq [c1, c2, c3].toArray }).get? b = some o := fun b o e => Heap.get?_push_of_some _ e
    have c' := c.grow grown
    have typ : PySem.W.Looks (model X.prog X.w) (s3.heap.push { cls := .type "tuple", data := .seq [c1, c2, c3].toArray }) (typeOf (.ref a)) cls := fun A Q E s k q => wpAny_typeOf_ref (k _ _ (grown _ _ at_)) (zc.1 ▸ q)
    refine (PySem.W.exm_tup3 (M := model X.prog X.w) c'.inv.kIn typ (Heap.get?_push_at rfl rfl) told).here ?_
    cases b with
    | false =>
      have w : Wout cls d σ' H' := w
      exact c'.on hs hf tk w
    | true =>
      refine codeAny_handlers_suite_as (c'.rest fun h4 c4 => ?_)
      rw [if_pos rfl] at w
      obtain ⟨C, dd, rfl, rfl, w⟩ := w
      refine store_ok (X := X.suite a (X.pn ++ pins)) (v := .ref a) (c4.value hs hf hex) hN hi (.inl hln) rfl (fun s5 S5 => ?_) (.inr hln)
      refine wpAny_mono ((hsu a (X.pn ++ pins)).run [] s5 _ _ _ S5 (w a c4.none_)) (fun f s6 out => ?_) (fun _ _ z => z.elim)
      have gone : ∀ {σ6 : L2.St} {H6 : Hp} {G : Shared → Prop}, Inv (X.suite a (X.pn ++ pins)) [] σ6 H6 s6 → (∀ s7, Inv X pins (σ6.set i none) H6 s7 → G s7) → wpAny (model X.prog X.w) X.A (do bindName X.env n .none; unbindBehindTheSuite X.env n pos') (fun _ => G) X.xe s6 :=
        fun S6 g => gone_ok (unsuite_ S6 ok) hN hi hln g
      cases f
      · obtain ⟨σ6, H6, S6, r⟩ := out; exact gone S6 fun s7 J7 => ⟨_, _, J7, r⟩
      · obtain ⟨σ6, H6, S6, r⟩ := out; exact gone S6 fun s7 J7 => ⟨_, _, J7, r⟩
      · obtain ⟨σ6, H6, S6, r⟩ := out; exact gone S6 fun s7 J7 => ⟨_, _, J7, r⟩
      · obtain ⟨v6, σ6, H6, S6, rel, r⟩ := out; exact gone S6 fun s7 J7 => ⟨_, _, _, J7, rel, r⟩
  refine wpAny_mono ((hb _ (X.pn ++ pins) xe takes PassesOwn.looking).run [] s σ H De (I.toTry _) h) (fun f s1 out => ?_) fun _ _ z => z
  cases f
  · obtain ⟨σ', H', J, r⟩ := out; exact wpAny_execs_nil ⟨σ', H', J.ofTry ok, r⟩
  · obtain ⟨σ', H', J, r⟩ := out; exact ⟨σ', H', J.ofTry ok, r⟩
  · obtain ⟨σ', H', J, r⟩ := out; exact ⟨σ', H', J.ofTry ok, r⟩
  · obtain ⟨v, σ', H', J, rel, r⟩ := out; exact ⟨v, σ', H', J.ofTry ok, rel, r⟩
end
end Dv

/-! DwD: defs that may be called within a suite too: nothing in their bodies asks whether an error is handled, and none is raised. -/
namespace Dv
open PySem PySem.Spec PyProof.Rows L2
/-- room, whatever is handled -/
structure RoomF (k : Nat) (A : Around) : Prop where
  deep : A.depth + 3 * k + 5 < recursionLimit
  many : A.units + 16 * k + 200 < cLine
theorem RoomF.of {k : Nat} {A : Around} (r : Room k A) : RoomF k A := ⟨r.dp, r.un⟩
theorem RoomF.less {j k : Nat} {A : Around} (r : RoomF k A) (h : j ≤ k) : RoomF j A := by
  obtain ⟨a, b⟩ := r
  constructor <;> omega
theorem RoomF.inner {k : Nat} {A : Around} (r : RoomF (k + 1) A) (env : Env) : RoomF k (A.deeper env) := by
  obtain ⟨a, b⟩ := r
  constructor
  · show A.depth + 1 + 3 * k + 5 < _; omega
  · show A.units + 3 + 16 * k + 200 < _; omega
/-- the body's context -/
def cxF (P : Program) (w : World) (K : PySem.W.Frag) (mg : Str → Option Value) (base : Heap) (N : List Str) (qual : Str) (scope : Scope) (f : Addr) (cd : Value) (A : Around) (outer : List Env) (s : Shared) (H : Hp) : Cx :=
  { cxOf CX0 P w K mg base N qual scope f cd A outer s H (fun _ _ _ => False) with calm := false, xe := fun _ _ => False }
structure FnF (P : Program) (w : World) (K : PySem.W.Frag) (mg : Str → Option Value) (base : Heap) (k : Nat) (f : Addr) (fd : FuncData) (ps : List Str) (sp : List V → Hp → VK → Prop) : Prop where
  len : ∀ vs H Q, sp vs H Q → vs.length = ps.length
  run : ∀ (A : Around) (outer : List Env) (s : Shared) (H : Hp) (args : Args) (us : List Value) (vs : List V) (Q : VK), RoomF k A → Env0 P w K mg base A outer s H → BindsTo s fd args (ps.zip us) → Vals vs us → sp vs H Q →
    codeAny (model P w) A (.call (.ref f) args) (fun r s' => ∃ u, r = .ok (.ret u) ∧ CE outer P w H s Q u s') s
section
variable {P : Program} {w : World} {K : PySem.W.Frag} {mg : Str → Option Value} {base : Heap} {x qual : Str} {params : Arguments} {body : List Stmt} {scope : Scope} {f : Addr} {fd : FuncData} {N ps : List Str} {k : Nat} {sp : List V → Hp → VK → Prop}
theorem fnF_of (F : FunD K x qual params body scope [] [] f fd) (S : FnScope N ps scope) (len : ∀ vs H Q, sp vs H Q → vs.length = ps.length)
    (hbody : ∀ (cdv : Value) (A : Around) (outer : List Env) (s : Shared) (H : Hp) (vs : List V) (Q : VK), RoomF k (A.deeper (envOfC qual scope s.heap.objs.size f cdv)) → sp vs H Q →
      ∃ t, PSs (cxF P w K mg base N qual scope f cdv A outer s H) body t ∧ t { nx := fun _ H' => Q .non H', rt := Q } (L2.start N vs) H) : FnF P w K mg base (k + 1) f fd ps sp := by
  obtain ⟨oc, od, dV, kV, doc, pm, an, cdv, ct, osl, rfl, lk, hcd, _, _⟩ := F.ex
  refine ⟨len, fun A outer s H args us vs Q room e0 bind rel told => ?_⟩
  have many := len _ _ _ told
  have stays : ∀ b o, base.get? b = some o → s.heap.get? b = some o := fun b o e => (e0.bs b o e).1
  have kin : K.In s.heap := e0.mod.kin.keeps stays
  refine codeAny_call_function (by have := room.deep; omega) (kin _ _ lk) rfl S.co S.gen rfl (PySem.W.codeRec_of kin hcd) (bind _ _ _ _ ?_)
  have kinds : ∀ y ∈ ps.zip us, scope.names.lookup y.1 = some .local ∨ (scope.names.lookup y.1 = some .cell ∧ ((cellsFrom (s.heap.objs.size + 1) scope.names []).lookup y.1).isSome = true) := by
    rintro ⟨n, v⟩ hy
    exact (S.par n (List.of_mem_zip hy).1).imp id fun q => ⟨q, PySem.W.cellsFrom_some _ _ _ (.inl q)⟩
  refine wpAny_newFunctionEnv_cells S.kind kinds fun env he s1 inCall => ?_
  subst he
  refine ⟨(e0.mod.nolimit.keeps stays).keeps inCall.toInCall.keep, codeAny_func ?_⟩
  obtain ⟨t, derived, reads⟩ := hbody cdv A outer s H vs Q (room.inner _) told
  have e1 : Env0 P w K mg base { A with handled := none } outer s H := ⟨e0.frames, e0.mod, e0.bs, e0.bsz, e0.funs, e0.frf, e0.hok, e0.bare⟩
  have I0 := inv_start (CX := CX0) (N := N) (qual := qual) (f := f) (cd := cdv) (E := fun _ _ _ => False) S (show ({ A with handled := none } : Around).handled = none from rfl) e1 many rel inCall
  have ok0 := I0.ok
  have ok : (cxF P w K mg base N qual scope f cdv A outer s H).Ok :=
    ⟨ok0.mod, ok0.kind, ok0.glob, ok0.blt, ok0.above, ok0.inj, ok0.has, ok0.cab, nofun, Around.frames_deeper e0.frames, ok0.stk, ok0.exf, ok0.bs, ok0.bsz, ok0.noex, ok0.exfs, ok0.funs, ok0.frf⟩
  have I : Inv (cxF P w K mg base N qual scope f cdv A outer s H) [] (L2.start N vs) H s1 := ⟨ok, I0.os, I0.bare, I0.base, I0.loc, I0.cell, I0.free, I0.freeC, I0.pin, I0.hok, I0.len⟩
  have back : ∀ {σ' : L2.St} {H' : Hp} {v : V} {u : Value} {s' : Shared}, Inv (cxF P w K mg base N qual scope f cdv A outer s H) [] σ' H' s' → RelV v u → Q v H' → CE outer P w H s Q u s' :=
    fun J rv q => ⟨_, _, J.os, J.bare, J.base, J.hok, rv, q⟩
  refine wpAny_mono (derived.run [] s1 _ H _ I reads) (fun fl s' out => ?_) fun e s' no => no.elim
  cases fl
  · obtain ⟨_, _, J, q⟩ := out; exact ⟨_, rfl, back (v := .non) J rfl q⟩
  · obtain ⟨_, _, _, q⟩ := out; exact q.elim
  · obtain ⟨_, _, _, q⟩ := out; exact q.elim
  · obtain ⟨_, _, _, J, rv, q⟩ := out; exact ⟨_, rfl, back J rv q⟩
end
/-- f(e, ..) anywhere -/
theorem pe_callF {X : Cx} {k : Nat} {f : Addr} {fd : FuncData} {ps : List Str} {sp : List V → Hp → VK → Prop} {x : Str} {p pos : Pos} {e : Expr} {es : List Expr} {t : TA} (F : FnF X.prog X.w X.K X.mg X.base k f fd ps sp) (room : RoomF k X.A) (hg : Gl X x) (hm : X.mg x = some (.ref f)) (hk : PySem.W.keepIn X.K (.ref f) = true) (hb : Binds X.K fd ps [])
    (ha : PA X (e :: es) t) (hdb : (x == ("__debug__" : Str)) = false := by decide) (first : starEach (e :: es) X.env = (false, eval e X.env) :: starEach es X.env := by rfl) (plain : (backTo pos (starEach es X.env)).any (·.1) = false := by rfl) :
    PE X (.Call (.Name x p) (e :: es) [] pos) (fun σ H Q => t σ H fun vs H1 => sp vs H1 Q) := by
  constructor
  intro pins s σ H Q I h
  apply wpAny_Call_Name_kw (ld_glob I hg hm ?_ hdb)
  apply PySem.W.callWith_K (h₀ := X.base) I.ok.mod.kin hk ?_ first plain
  refine thn (ha.run pos pins s σ H _ I h) fun us s1 ⟨vs, H1, J, rel, told⟩ => ⟨J.kIn, ?_⟩
  have all : (us ++ ([] : List Value)).length = ps.length := by
    rw [List.append_nil, ← rel.length]; exact F.len _ _ _ told
  have bound := hb s1 us J.kIn all
  rw [List.append_nil] at bound
  refine wpAny_call (codeAny_mono (F.run X.A X.stack s1 H1 ⟨us, []⟩ us vs Q room J.env0 bound rel told) fun r s' out => ?_)
  obtain ⟨u, rfl, ce⟩ := out
  exact J.after ce
end Dv

/-! DwE: own errors at the level of deep values: their fields, their making, raise. -/
namespace Dv
open PySem PySem.Spec PyProof.Rows L2
theorem repF_get {T : Tx} {ρ : List Addr} {G : Hp} {f : Str} {d : D} : ∀ {fs : List (Str × D)} {vf : List (Str × V)}, RepF T ρ G vf fs → fs.lookup f = some d → ∃ v, vf.lookup f = some v ∧ Rep T ρ G v d
  | [], _, _, e => by cases e
  | (g, d') :: fs, vf, h, e => by
    unfold RepF at h
    obtain ⟨v, r, rfl, q, t⟩ := h
    unfold List.lookup at e ⊢
    by_cases hg : (f == g) = true
    · rw [hg] at e ⊢; cases e; exact ⟨v, rfl, q⟩
    · rw [Bool.eq_false_iff.mpr hg] at e ⊢; exact repF_get t e
/-- of these classes' errors the field f is read plainly -/
structure ErrF (K : PySem.W.Frag) (mg : Str → Option Value) (cs : List Str) (f : Str) : Prop where
  ok : ∀ c ∈ cs, ∃ C : Addr, mg c = some (.ref C) ∧ XfC K C ∧ PySem.W.findIn K (.ref C) f = some none
def fAttr (cs : List Str) (f : Str) : D → Mu → Res D
  | .exn c fs, μ => if c ∈ cs then (match fs.lookup f with
    | some d => ret d μ
    | none => none) else none
  | _, _ => none
def dAttr (cs : List Str) (f : Str) (m : DEx) : DEx := fun env μ => bindR (m env μ) fun d μ => fAttr cs f (hold d) μ
section
variable {X : Cx} {B : Bs} {W : WX} {e : Expr} {m : DEx} {p pos : Pos}
theorem exn_inv {T : Tx} {ρ : List Addr} {G : Hp} {σ : L2.St} {env : DEnv} {x : V} {c : Str} {fs : List (Str × D)} (h : HeldR T ρ G σ env x (.exn c fs)) : ∃ a C d vf, x = .ref a ∧ T.mg c = some (.ref C) ∧ G a = some (exv a C d) ∧ G d = some (.xd vf) ∧ RepF T ρ G vf fs := by
  have h : Rep T ρ G x (.exn c fs) := h
  unfold Rep at h; exact h
theorem de_attr {cs : List Str} {f : Str} (he : DE X B W e m) (F : ErrF X.K X.mg cs f) (plain : attributeBase e f X.env (eval e X.env) = eval e X.env := by rfl) : DE X B W (.Attribute e f pos) (dAttr cs f m) := by
  refine ⟨peImp (pe_xv he.run plain) fun σ H Q ⟨ρ, G, env, μ, R, k⟩ => ?_⟩
  refine rd_then (f := fun d μ => fAttr cs f (hold d) μ) R k fun ρ1 G1 H1 μ1 x d s p R1 hx k1 => ?_
  generalize hold d = d at hx k1
  unfold fAttr at k1
  split at k1
  · split at k1
    · rename_i hc
      split at k1
      · rename_i d' hl
        obtain ⟨a, C, dd, vf, rfl, hm, g1, g2, rf⟩ := exn_inv hx
        obtain ⟨C', hm', T, own⟩ := F.ok _ hc
        have hm : X.mg _ = some (.ref C) := hm
        rw [hm] at hm'; cases hm'
        obtain ⟨v, hv, rv⟩ := repF_get rf hl
        exact ⟨a, C, dd, vf, v, rfl, T, own, R1.gh _ _ g1, R1.gh _ _ g2, hv, k1.here R1 (.ofR rv)⟩
      · exact k1.elim
    · exact k1.elim
  · exact k1.elim
/-- what C(v) of one field promises -/
def spErr1 (C : Addr) (fld code : Str) : Sp := fun vs H Q E => ∃ (a : Addr) (v : V), vs = [.ref a, v] ∧ H a = some (exo a C none) ∧ ∀ dx, H dx = none → dx ≠ a →
  Q .non (upd (upd (upd H dx (exd dx [("code", .str code)])) a (exo a C (some dx))) dx (exd dx [(fld, v), ("code", .str code)]))
/-- such a class by its name -/
structure MkErr (P : Program) (w : World) (K : PySem.W.Frag) (mg : Str → Option Value) (base : Heap) (c fld code : Str) (k : Nat) : Prop where
  ex : ∃ (C fI : Addr) (fd : FuncData) (ps : List Str) (b : EBase), mg c = some (.ref C) ∧ OexN K C b ∧ PySem.W.findIn K (.ref C) "__init__" = some (some (.ref fI)) ∧ PySem.W.typeIn K (.ref fI) = some (.type "function") ∧ Binds K fd ps [] ∧ FnOk P w K mg base (L2.CX P w) k fI fd ps (spErr1 C fld code)
theorem err1_step {C : Addr} {fld code : Str} {v : V} {H1 : Hp} {Qx : XK} (hq : ∀ d, H1 d = none → Qx (.ref C) (some d) (upd H1 d (.xd [(fld, v), ("code", .str code)]))) :
    [v].length ≤ 1000 ∧ ∀ a, H1 a = none → spErr1 C fld code (.ref a :: ([v] ++ [])) (upd H1 a (exo a C none))
      (fun u H2 => u = .non ∧ ∃ (d : Addr) (fs : List (Str × V)), H2 a = some (exo a C (some d)) ∧ H2 d = some (exd d fs) ∧ H1 d = none ∧ Qx (.ref C) (some d) (upd (del H2 a) d (.xd fs))) (fun _ _ _ => False) := by
  refine ⟨by show 1 ≤ 1000; decide, fun a ha => ⟨a, v, rfl, upd_same, fun dx n ne => ⟨rfl, dx, [(fld, v), ("code", .str code)], ?_, upd_same, ?_, ?_⟩⟩⟩
  · rw [upd_ne (Ne.symm ne), upd_same]
  · rw [upd_ne ne] at n; exact n
  · have n' : H1 dx = none := by rw [upd_ne ne] at n; exact n
    have e : upd (del (upd (upd (upd (upd H1 a (exo a C none)) dx (exd dx [("code", .str code)])) a (exo a C (some dx))) dx (exd dx [(fld, v), ("code", .str code)])) a) dx (.xd [(fld, v), ("code", .str code)]) = upd H1 dx (.xd [(fld, v), ("code", .str code)]) := by
      funext b
      by_cases h1 : b = dx
      · rw [h1, upd_same, upd_same]
      · rw [upd_ne h1, upd_ne h1]
        by_cases h2 : b = a
        · rw [h2, del_same, ha]
        · rw [del_ne h2, upd_ne h1, upd_ne h2, upd_ne h1, upd_ne h2]
    rw [e]; exact hq dx n'
theorem nox_ : Passes (L2.CX X.prog X.w) X (fun _ _ _ => False) := by
  rintro pins σ H s e s' I ⟨_, _, _, _, _, _, _, _, _, _, _, _, z⟩
  exact z.elim
def fErr1 (c fld code : Str) : FA
  | [d], μ => if nobor d = true then ret (.exn c [(fld, d), ("code", .str code)]) μ else none
  | _, _ => none
theorem repF2 {T : Tx} {ρ : List Addr} {G : Hp} {f g : Str} {x y : V} {a b : D} (h : Rep T ρ G x a) (h' : Rep T ρ G y b) : RepF T ρ G [(f, x), (g, y)] [(f, a), (g, b)] := by
  unfold RepF
  refine ⟨x, _, rfl, h, ?_⟩
  unfold RepF
  refine ⟨y, _, rfl, h', ?_⟩
  unfold RepF; rfl
/-- C(e) as a value -/
theorem de_err1 {c fld code : Str} {k : Nat} {n : DEnv → Mu → Res (List D)} (E : MkErr X.prog X.w X.K X.mg X.base c fld code k) (hr : Room (k + 1) X.A) (hg : Gl X c) (ha : DA X B W [e] n) (hdb : (c == ("__debug__" : Str)) = false := by decide) (he : starEach [e] X.env = (false, eval e X.env) :: starEach [] X.env := by rfl) :
    DE X B W (.Call (.Name c p) [e] [] pos) (dCall (fErr1 c fld code) n) := by
  obtain ⟨C, fI, fd, ps, b, hm, T, iC, tI, hb, F⟩ := E.ex
  refine ⟨peImp (pe_held (pmk_n T iC tI F hr hb nox_ hg hm ha.run hdb he rfl)) fun σ H Q ⟨ρ, G, env, μ, R, k⟩ => ?_⟩
  refine ⟨ρ, G, env, μ, R, (KE.bind (f := fErr1 c fld code) k).imp fun ρ1 G1 H1 μ1 ds s p R1 k1 vs hvs => ?_⟩
  unfold fErr1 at k1
  split at k1
  · rename_i d
    split at k1
    · rename_i hd
      obtain ⟨v, rfl, hv⟩ := hreps1 hvs
      refine err1_step (C := C) (fld := fld) (code := code) (v := v) (H1 := H1) (Qx := fun cls d H1 => ∃ C dd : Addr, cls = .ref C ∧ d = some dd ∧ ∀ a, H1 a = none → Q (.ref a) (upd H1 a (exv a C dd))) fun dd n => ⟨C, dd, rfl, rfl, fun a na => ?_⟩
      have R2 := R1.alloc (o := .xd [(fld, v), ("code", .str code)]) n
      have R3 := R2.alloc (o := exv a C dd) na
      have g1 := (R1.fresh_ n).1
      have g2 := (R2.fresh_ na).1
      refine k1 ρ1 _ _ ((same_upd g1).trans (same_upd g2)) (.refl _) R3 _ (.ofR ?_)
      have rv := (hv.rep hd).mono ((same_upd g1 (o := .xd [(fld, v), ("code", .str code)])).trans (same_upd g2 (o := exv a C dd))) (.refl _)
      have hne : dd ≠ a := fun z => by rw [z, upd_same] at na; cases na
      unfold Rep
      exact ⟨a, C, dd, _, rfl, hm, upd_same, by rw [upd_ne hne, upd_same], repF2 rv rep_str⟩
    · exact k1.elim
  · exact k1.elim
/-- raise C(e) -/
def dRaise (c fld code : Str) (n : DEnv → Mu → Res (List D)) : DSt := fun env μ => bindS env (n env μ) fun ds μ => match ds with
  | [d] => if nobor d = true then some (.exc ⟨c, [(fld, d), ("code", .str code)]⟩, env, μ) else none
  | _ => none
theorem ds_raise {c fld code : Str} {k : Nat} {n : DEnv → Mu → Res (List D)} {pos' : Pos} (E : MkErr X.prog X.w X.K X.mg X.base c fld code k) (hc : X.calm = true) (tk : Takes X W) (hr : Room (k + 1) X.A) (hg : Gl X c) (ha : DA X B W [e] n) (hdb : (c == ("__debug__" : Str)) = false := by decide) (he : starEach [e] X.env = (false, eval e X.env) :: starEach [] X.env := by rfl) :
    DS X B W (.Raise (some (.Call (.Name c p) [e] [] pos)) none pos') (dRaise c fld code n) := by
  obtain ⟨C, fI, fd, ps, b, hm, T, iC, tI, hb, F⟩ := E.ex
  refine ⟨psImp (ps_raise hc tk (pmk_n T iC tI F hr hb nox_ hg hm ha.run hdb he rfl)) fun De σ H ⟨ρ, G, env, μ, R, k⟩ => ?_⟩
  refine ⟨ρ, G, env, μ, R, (KS.bind k).imp fun ρ1 G1 H1 μ1 ds s p R1 k1 vs hvs => ?_⟩
  split at k1
  · rename_i d
    split at k1
    · rename_i hd
      obtain ⟨v, rfl, hv⟩ := hreps1 hvs
      refine err1_step (C := C) (fld := fld) (code := code) (v := v) (H1 := H1) (Qx := fun cls d H' => W cls d σ H') fun dd n => ?_
      have g1 := (R1.fresh_ n).1
      exact k1 σ ρ1 _ _ _ _ (same_upd g1) (.refl _) (R1.alloc n) ⟨C, dd, _, rfl, hm, rfl, upd_same, repF2 ((hv.rep hd).mono (same_upd g1) (.refl _)) rep_str⟩
    · exact k1.elim
  · exact k1.elim
/-! ### errors without fields -/
def spErr0 (C : Addr) (code : Str) : Sp := fun vs H Q E => ∃ a : Addr, vs = [.ref a] ∧ H a = some (exo a C none) ∧ ∀ dx, H dx = none → dx ≠ a → Q .non (upd (upd H dx (exd dx [("code", .str code)])) a (exo a C (some dx)))
structure MkErr0 (P : Program) (w : World) (K : PySem.W.Frag) (mg : Str → Option Value) (base : Heap) (c code : Str) (k : Nat) : Prop where
  ex : ∃ (C fI : Addr) (fd : FuncData) (ps : List Str) (b : EBase), mg c = some (.ref C) ∧ OexN K C b ∧ PySem.W.findIn K (.ref C) "__init__" = some (some (.ref fI)) ∧ PySem.W.typeIn K (.ref fI) = some (.type "function") ∧ Binds K fd ps [] ∧ FnOk P w K mg base (L2.CX P w) k fI fd ps (spErr0 C code)
theorem err0_step {C : Addr} {code : Str} {H1 : Hp} {Qx : XK} (hq : ∀ d, H1 d = none → Qx (.ref C) (some d) (upd H1 d (.xd [("code", .str code)]))) :
    ([] : List V).length ≤ 1000 ∧ ∀ a, H1 a = none → spErr0 C code (.ref a :: ([] ++ [])) (upd H1 a (exo a C none))
      (fun u H2 => u = .non ∧ ∃ (d : Addr) (fs : List (Str × V)), H2 a = some (exo a C (some d)) ∧ H2 d = some (exd d fs) ∧ H1 d = none ∧ Qx (.ref C) (some d) (upd (del H2 a) d (.xd fs))) (fun _ _ _ => False) := by
  refine ⟨by show 0 ≤ 1000; decide, fun a ha => ⟨a, rfl, upd_same, fun dx n ne => ?_⟩⟩
  have n' : H1 dx = none := by rw [upd_ne ne] at n; exact n
  refine ⟨rfl, dx, [("code", .str code)], upd_same, by rw [upd_ne ne, upd_same], n', ?_⟩
  have e : upd (del (upd (upd (upd H1 a (exo a C none)) dx (exd dx [("code", .str code)])) a (exo a C (some dx))) a) dx (.xd [("code", .str code)]) = upd H1 dx (.xd [("code", .str code)]) := by
    funext b
    by_cases h1 : b = dx
    · rw [h1, upd_same, upd_same]
    · rw [upd_ne h1, upd_ne h1]
      by_cases h2 : b = a
      · rw [h2, del_same, ha]
      · rw [del_ne h2, upd_ne h2, upd_ne h1, upd_ne h2]
  rw [e]; exact hq dx n'
theorem repF1 {T : Tx} {ρ : List Addr} {G : Hp} {f : Str} {x : V} {a : D} (h : Rep T ρ G x a) : RepF T ρ G [(f, x)] [(f, a)] := by
  unfold RepF
  refine ⟨x, _, rfl, h, ?_⟩
  unfold RepF; rfl
/-- C() as a value -/
def dErr0 (c code : Str) : DEx := dC (.exn c [("code", .str code)])
theorem de_err0 {c code : Str} {k : Nat} (E : MkErr0 X.prog X.w X.K X.mg X.base c code k) (hr : Room (k + 1) X.A) (hg : Gl X c) (hdb : (c == ("__debug__" : Str)) = false := by decide) :
    DE X B W (.Call (.Name c p) [] [] pos) (dErr0 c code) := by
  obtain ⟨C, fI, fd, ps, b, hm, T, iC, tI, hb, F⟩ := E.ex
  refine ⟨peImp (pe_held (pmk_0 T iC tI F hr hb nox_ hg hm hdb)) fun σ H Q ⟨ρ, G, env, μ, R, k⟩ => ?_⟩
  refine err0_step (C := C) (code := code) (H1 := H) (Qx := fun cls d H1 => ∃ C dd : Addr, cls = .ref C ∧ d = some dd ∧ ∀ a, H1 a = none → Q (.ref a) (upd H1 a (exv a C dd))) fun dd n => ⟨C, dd, rfl, rfl, fun a na => ?_⟩
  have R2 := R.alloc (o := .xd [("code", .str code)]) n
  have R3 := R2.alloc (o := exv a C dd) na
  have g1 := (R.fresh_ n).1
  have g2 := (R2.fresh_ na).1
  refine k ρ _ _ ((same_upd g1).trans (same_upd g2)) (.refl _) R3 _ (.ofR ?_)
  have hne : dd ≠ a := fun z => by rw [z, upd_same] at na; cases na
  unfold Rep
  exact ⟨a, C, dd, _, rfl, hm, upd_same, by rw [upd_ne hne, upd_same], repF1 rep_str⟩
/-- raise C() -/
def dRaise0 (c code : Str) : DSt := fun env μ => some (.exc ⟨c, [("code", .str code)]⟩, env, μ)
theorem ds_raise0 {c code : Str} {k : Nat} {pos' : Pos} (E : MkErr0 X.prog X.w X.K X.mg X.base c code k) (hc : X.calm = true) (tk : Takes X W) (hr : Room (k + 1) X.A) (hg : Gl X c) (hdb : (c == ("__debug__" : Str)) = false := by decide) :
    DS X B W (.Raise (some (.Call (.Name c p) [] [] pos)) none pos') (dRaise0 c code) := by
  obtain ⟨C, fI, fd, ps, b, hm, T, iC, tI, hb, F⟩ := E.ex
  refine ⟨psImp (ps_raise hc tk (pmk_0 T iC tI F hr hb nox_ hg hm hdb)) fun De σ H ⟨ρ, G, env, μ, R, k1⟩ => ?_⟩
  refine err0_step (C := C) (code := code) (H1 := H) (Qx := fun cls d H' => W cls d σ H') fun dd n => ?_
  have g1 := (R.fresh_ n).1
  exact k1 σ ρ _ _ _ _ (same_upd g1) (.refl _) (R.alloc n) ⟨C, dd, _, rfl, hm, rfl, upd_same, repF1 rep_str⟩
end
end Dv

/-! DwF: an own error class of one field, by the text of its __init__. -/
namespace Dv
open PySem PySem.Spec PyProof.Rows L2
section
variable {P : Program} {w : World} {K : PySem.W.Frag} {mg : Str → Option Value} {base : Heap}
theorem mkErr_of {c fld code prm qual : Str} {C fI : Addr} {fd : FuncData} {params : Arguments} {scope : Scope} {k : Nat} {p0 p1 p2 p3 p4 q0 q1 q2 q3 q4 r1 r2 r3 r4 : Pos} {txt : Str} {j j2 : Nat} {pl : Sem Bool} {ar : Arg} {b : EBase}
    (hm : mg c = some (.ref C)) (T : SupC K C C b) (no1 : PySem.W.findIn K (.ref C) "code" = some none) (no2 : PySem.W.findIn K (.ref C) fld = some none) (iC : PySem.W.findIn K (.ref C) "__init__" = some (some (.ref fI))) (tI : PySem.W.typeIn K (.ref fI) = some (.type "function"))
    (F : SupD P K "__init__" qual params [.Expr (.Call (.Attribute (.Call (.Name "super" p0) [] [] p1) "__init__" p2) [.Constant (.str txt) j p3] [] p4) q0, .Assign [.Attribute (.Name "self" q1) "code" q2] (.Constant (.str code) j2 q3) q4, .Assign [.Attribute (.Name "self" r1) fld r2] (.Name prm r3) r4] scope fI fd C)
    (S : SupScope ["self", prm] ["self", prm] scope) (hpar : (params.posonlyargs ++ params.args).head? = some ar) (har : ar.arg = "self") (hmg : mg "super" = none) (htop : (P.main.scope.names.lookup ("super" : Str)).isSome = false)
    (he : ∀ env : Env, eval (.Call (.Attribute (.Call (.Name "super" p0) [] [] p1) "__init__" p2) [.Constant (.str txt) j p3] [] p4) env = (do
      let ov ← attributeBase (.Call (.Name "super" p0) [] [] p1) "__init__" env (eval (.Call (.Name "super" p0) [] [] p1) env)
      standAt p2.atName
      let (f', first) ← holding [ov] (getMethod ov "__init__" pl)
      callWith p4 f' first (backTo p4 (starEach [.Constant (.str txt) j p3] env)) []))
    (s1 : ∀ env : Env, swapsWith (.Constant (.str code) j2 q3) (some (.Attribute (.Name "self" q1) "code" q2)) q4.line env = pure false) (s2 : ∀ env : Env, swapsWith (.Name prm r3) (some (.Attribute (.Name "self" r1) fld r2)) r4.line env = pure false)
    (d1 : (prm == Str.ofString "__debug__") = false) (d2 : (prm == Str.ofString "__classdict__") = false)
    (hb : Binds K fd ["self", prm] []) : MkErr P w K mg base c fld code (k + 1) := by
  refine ⟨C, fI, fd, ["self", prm], b, hm, T.oex, iC, tI, hb, ?_⟩
  have ps : scope.names.lookup ("self" : Str) = some .local := S.par _ (.head _)
  have pp : scope.names.lookup prm = some .local := S.par _ (.tail _ (.head _))
  refine sup_ok (N := ["self", prm]) (D := C) F S hpar (by rw [har]; exact ps) (by rw [har]; rfl) hmg htop (fun vs H Q E h => ?_) (fun vs H Q E h => ?_) he fun cda cc A outer s H vs Q E hr h => ?_
  · obtain ⟨a, v, rfl, _⟩ := h; rfl
  · obtain ⟨a, v, rfl, ea, _⟩ := h
    exact ⟨a, C, [v], b, rfl, ea, T⟩
  · obtain ⟨a, v, rfl, ea, q⟩ := h
    refine ⟨tSeq (tSt K "code" (tVar 0) (tC (.str code))) (tSt K fld (tVar 0) (tVar 1)), ?_, ?_⟩
    · exact pss_cons (ps_st (pv 0 rfl (.inl ps) rfl rfl) pe_str (s1 _)) (pss_one (ps_st (pv 0 rfl (.inl ps) rfl rfl) (pv 1 rfl (.inl pp) d1 d2) (s2 _)))
    · refine ⟨.ref a, rfl, a, C, b, rfl, T.oex, no1, .inl ⟨ea, fun dx n ne => ?_⟩⟩
      refine ⟨v, rfl, .ref a, rfl, a, C, b, rfl, T.oex, no2, .inr ⟨dx, [("code", .str code)], upd_same, ?_, by show 1 ≤ 900; decide, q dx n ne⟩⟩
      rw [upd_ne ne, upd_same]
theorem mkErr0_of {c code qual : Str} {C fI : Addr} {fd : FuncData} {params : Arguments} {scope : Scope} {k : Nat} {p0 p1 p2 p3 p4 q0 q1 q2 q3 q4 : Pos} {txt : Str} {j j2 : Nat} {pl : Sem Bool} {ar : Arg} {b : EBase}
    (hm : mg c = some (.ref C)) (T : SupC K C C b) (no1 : PySem.W.findIn K (.ref C) "code" = some none) (iC : PySem.W.findIn K (.ref C) "__init__" = some (some (.ref fI))) (tI : PySem.W.typeIn K (.ref fI) = some (.type "function"))
    (F : SupD P K "__init__" qual params [.Expr (.Call (.Attribute (.Call (.Name "super" p0) [] [] p1) "__init__" p2) [.Constant (.str txt) j p3] [] p4) q0, .Assign [.Attribute (.Name "self" q1) "code" q2] (.Constant (.str code) j2 q3) q4] scope fI fd C)
    (S : SupScope ["self"] ["self"] scope) (hpar : (params.posonlyargs ++ params.args).head? = some ar) (har : ar.arg = "self") (hmg : mg "super" = none) (htop : (P.main.scope.names.lookup ("super" : Str)).isSome = false)
    (he : ∀ env : Env, eval (.Call (.Attribute (.Call (.Name "super" p0) [] [] p1) "__init__" p2) [.Constant (.str txt) j p3] [] p4) env = (do
      let ov ← attributeBase (.Call (.Name "super" p0) [] [] p1) "__init__" env (eval (.Call (.Name "super" p0) [] [] p1) env)
      standAt p2.atName
      let (f', first) ← holding [ov] (getMethod ov "__init__" pl)
      callWith p4 f' first (backTo p4 (starEach [.Constant (.str txt) j p3] env)) []))
    (s1 : ∀ env : Env, swapsWith (.Constant (.str code) j2 q3) (some (.Attribute (.Name "self" q1) "code" q2)) q4.line env = pure false)
    (hb : Binds K fd ["self"] []) : MkErr0 P w K mg base c code (k + 1) := by
  refine ⟨C, fI, fd, ["self"], b, hm, T.oex, iC, tI, hb, ?_⟩
  have ps : scope.names.lookup ("self" : Str) = some .local := S.par _ (.head _)
  refine sup_ok (N := ["self"]) (D := C) F S hpar (by rw [har]; exact ps) (by rw [har]; rfl) hmg htop (fun vs H Q E h => ?_) (fun vs H Q E h => ?_) he fun cda cc A outer s H vs Q E hr h => ?_
  · obtain ⟨a, rfl, _⟩ := h; rfl
  · obtain ⟨a, rfl, ea, _⟩ := h
    exact ⟨a, C, [], b, rfl, ea, T⟩
  · obtain ⟨a, rfl, ea, q⟩ := h
    refine ⟨tSt K "code" (tVar 0) (tC (.str code)), ?_, ?_⟩
    · exact pss_one (ps_st (pv 0 rfl (.inl ps) rfl rfl) pe_str (s1 _))
    · exact ⟨.ref a, rfl, a, C, b, rfl, T.oex, no1, .inl ⟨ea, fun dx n ne => q dx n ne⟩⟩
end
end Dv

/-! DwG: try .. except (A, B, C) as n, at the level of deep values. -/
namespace Dv
open PySem PySem.Spec PyProof.Rows L2
/-- the errors of these classes are caught -/
structure Catch (K : PySem.W.Frag) (mg : Str → Option Value) (vs : List Value) (cs : List Str) : Prop where
  ok : ∀ c ∈ cs, ∃ C : Addr, mg c = some (.ref C) ∧ PySem.W.exmAny K (.ref C) vs = some true
def behind (i : Nat) : RS → RS
  | some (.val (.ret d), env, μ) => some (.val (.ret d), env, μ)
  | some (.val f, env, μ) => some (.val f, env.set i .no, μ)
  | _ => none
def dTry (cs : List Str) (i : Nat) (m ms : DSt) : DSt := fun env μ => match m env μ with
  | some (.exc x, env', μ') => if x.cls ∈ cs then behind i (ms (env'.set i (.v (.exn x.cls x.fs))) μ') else none
  | r => r
section
variable {X : Cx} {B : Bs} {Wout : WX} {i : Nat} {n x1 x2 x3 : Str} {c1 c2 c3 : Value} {body suite : List Stmt} {b₀ : Stmt} {q1 q2 q3 tp pos pos' : Pos} {kk : Nat} {m ms : DSt} {cs : List Str}
theorem ds_try3 (hs : X.stack = X.env :: X.outer) (hf : X.env.frame = some X.env.locals) (hex : X.ex = []) (hN : X.N.Nodup) (hi : X.N[i]? = some n) (hln : X.env.kindOf n = some .local) (hc1 : Names X x1 c1) (hc2 : Names X x2 c2) (hc3 : Names X x3 c3) (tk : Takes X Wout)
    (hc : Catch X.K X.mg [c1, c2, c3] cs) (hb : ∀ (W : WX) (pn : List (Addr × Obj)) (xe : Value → Shared → Prop), Takes (X.tr pn xe) W → PassesOwn (model X.prog X.w) X.A X.env xe → DSs (X.tr pn xe) B W body m)
    (hsu : ∀ (a : Addr) (pn : List (Addr × Obj)), DSs (X.suite a pn) B W0 (b₀ :: suite) ms) :
    DS X B Wout (.Try body [.ExceptHandler (some (.Tuple [.Name x1 q1, .Name x2 q2, .Name x3 q3] kk tp)) (some n) (b₀ :: suite) pos'] [] [] pos) (dTry cs i m ms) := by
  refine ⟨psImp (ps_try_tup3 (tb := fun W => rdS (tx X) B W m) (ts := rdS (tx X) B W0 ms) hs hf hex hN hi hln hc1 hc2 hc3 tk (fun W pn xe t p => (hb W pn xe t p).run) (fun a pn => (hsu a pn).run)) fun De σ H ⟨ρ, G, env, μ, R, k⟩ => ⟨ρ, G, env, μ, R, ?_⟩⟩
  unfold dTry at k
  cases hm : m env μ with
  | none => rw [hm] at k; exact k.elim
  | some q =>
    obtain ⟨o, e', μ'⟩ := q
    rw [hm] at k
    cases o with
    | val f => cases f <;> exact k
    | exc x =>
      have k : KS (tx X) B Wout De ρ G (if x.cls ∈ cs then behind i (ms (e'.set i (.v (.exn x.cls x.fs))) μ') else none) := k
      split at k
      · rename_i hin
        obtain ⟨C, hmC, told⟩ := hc.ok _ hin
        intro σ' ρ' G' H' cls dd s p R' er
        obtain ⟨C', d, vf, rfl, hm', rfl, gd, rf⟩ := er
        have hm' : X.mg x.cls = some (.ref C') := hm'
        rw [hmC] at hm'; cases hm'
        refine ⟨true, told, ?_⟩
        rw [if_pos rfl]
        refine ⟨C, d, rfl, rfl, fun a na => ?_⟩
        have ga := (R'.fresh_ na).1
        have R2 := R'.alloc (o := exv a C d) na
        have gs := same_upd ga (o := exv a C d)
        have hda : d ≠ a := fun z => by
          have := R'.gh _ _ gd
          rw [z, na] at this; cases this
        have rx : Rep (tx X) ρ' (upd G' a (exv a C d)) (.ref a) (.exn x.cls x.fs) := by
          unfold Rep
          exact ⟨a, C, d, vf, rfl, hmC, upd_same, by rw [upd_ne hda]; exact gd, rf.mono gs (.refl _)⟩
        have k := k.weak (s.trans gs) p
        refine ⟨ρ', _, _, μ', R2.set (i := i) rx, ?_⟩
        cases hr : ms (e'.set i (.v (.exn x.cls x.fs))) μ' with
        | none => rw [hr] at k; exact k.elim
        | some q2 =>
          obtain ⟨o2, e2, μ2⟩ := q2
          rw [hr] at k
          have gone : ∀ {σ2 : L2.St} {ρ2 : List Addr} {G2 H2 : Hp}, RD (tx X) B ρ2 G2 H2 σ2 e2 μ2 → RD (tx X) B ρ2 G2 H2 (σ2.set i none) (e2.set i .no) μ2 := fun R3 => R3.setG (fun _ => by simp) fun d' z => by cases z
          cases o2 with
          | exc y => exact k.elim
          | val f =>
            cases f with
            | nx => exact fun σ2 ρ2 G2 H2 s2 p2 R3 => k _ ρ2 G2 H2 s2 p2 (gone R3)
            | brk => exact fun σ2 ρ2 G2 H2 s2 p2 R3 => k _ ρ2 G2 H2 s2 p2 (gone R3)
            | ct => exact fun σ2 ρ2 G2 H2 s2 p2 R3 => k _ ρ2 G2 H2 s2 p2 (gone R3)
            | ret d2 => exact k
      · exact k.elim
end
end Dv

/-! DwH: defs that are called within a suite, at the level of deep values. -/
namespace Dv
open PySem PySem.Spec PyProof.Rows L2
def spF (T : Tx) (n : Nat) (m : Fn) : List V → Hp → VK → Prop := fun vs H Q => spD T n m vs H Q fun _ _ _ => False
section
variable {P : Program} {w : World} {K : PySem.W.Frag} {mg : Str → Option Value} {base : Heap} {x qual : Str} {params : Arguments} {body : List Stmt} {scope : Scope} {f : Addr} {fd : FuncData}
theorem def_okF {N ps : List Str} {k : Nat} {m : DSt} (F : FunD K x qual params body scope [] [] f fd) (S : FnScope N ps scope)
    (hbody : ∀ (cdv : Value) (A : Around) (outer : List Env) (s : Shared) (H : Hp) (B : Bs), RoomF k (A.deeper (envOfC qual scope s.heap.objs.size f cdv)) → DSs (cxF P w K mg base N qual scope f cdv A outer s H) B W0 body m) :
    FnF P w K mg base (k + 1) f fd ps (spF ⟨K, mg⟩ ps.length (cleanD (defD N.length m))) := by
  refine fnF_of F S (fun vs H Q h => h.1) fun cdv A outer s H vs Q hr h => ?_
  obtain ⟨hl, ρ, G, ds, μ, gh, st, rs, told⟩ := h
  refine ⟨rdS ⟨K, mg⟩ ⟨H, G, ρ, []⟩ W0 m, (hbody cdv A outer s H _ hr).run, ρ, G, envD N.length ds, μ, start_rd gh st rs, ?_⟩
  unfold cleanD defD at told
  cases e : m (envD N.length ds) μ with
  | none => rw [e] at told; exact told.elim
  | some q =>
    obtain ⟨o, env', μ'⟩ := q
    rw [e] at told
    cases o with
    | exc y => exact fun σ' ρ' G' H' cls dd s p R er => told cls dd ρ' G' H' R.ext R.gh R.st er
    | val fl =>
      cases fl with
      | brk => exact told.elim
      | ct => exact told.elim
      | nx => exact fun σ' ρ' G' H' s p R => told .non ρ' G' H' R.ext R.gh R.st (show Rep _ _ _ _ _ from rep_non)
      | ret d =>
        have told : KC ⟨K, mg⟩ ρ G H Q (fun _ _ _ => False) (if nobor d then some (.val d, μ') else none) := told
        split at told
        · rename_i clean
          exact fun σ' env2 ρ' G' H' v s p R hv => told v ρ' G' H' R.ext R.gh R.st (repO_of hv clean)
        · exact told.elim
end
/-- such a def by its name -/
structure CalleeF (P : Program) (w : World) (K : PySem.W.Frag) (mg : Str → Option Value) (base : Heap) (x : Str) (ps : List Str) (k : Nat) (m : Fn) : Prop where
  ex : ∃ (f : Addr) (fd : FuncData), mg x = some (.ref f) ∧ PySem.W.keepIn K (.ref f) = true ∧ Binds K fd ps [] ∧ FnF P w K mg base k f fd ps (spF ⟨K, mg⟩ ps.length m)
/-- its value alone -/
def valOnly (m : Fn) : Fn := fun ds μ => match m ds μ with
  | some (.val d, μ') => some (.val d, μ')
  | _ => none
theorem de_callF {X : Cx} {B : Bs} {W : WX} {k n : Nat} {ps : List Str} {m : Fn} {x : Str} {p pos : Pos} {e : Expr} {es : List Expr} {na : DEnv → Mu → Res (List D)} (C : CalleeF X.prog X.w X.K X.mg X.base x ps k m) (room : RoomF k X.A) (hg : Gl X x) (ha : DA X B W (e :: es) na) (hn : ps.length = n := by rfl)
    (hdb : (x == ("__debug__" : Str)) = false := by decide) (first : starEach (e :: es) X.env = (false, eval e X.env) :: starEach es X.env := by rfl) (plain : (backTo pos (starEach es X.env)).any (·.1) = false := by rfl) :
    DE X B W (.Call (.Name x p) (e :: es) [] pos) (dCall (fCall n (valOnly m)) na) := by
  subst hn
  obtain ⟨f, fd, h1, h2, h3, h4⟩ := C.ex
  refine ⟨peImp (pe_callF h4 room hg h1 h2 h3 ha.run hdb first plain) fun σ H Q ⟨ρ, G, env, μ, R, k⟩ => ?_⟩
  refine ⟨ρ, G, env, μ, R, (KE.bind (f := fCall ps.length (valOnly m)) k).imp fun ρ1 G1 H1 μ1 ds s p R1 k1 vs hvs => ?_⟩
  unfold fCall at k1
  split at k1
  · rename_i h
    have r := hvs.reps h.2
    refine ⟨by rw [r.length, h.1], ρ1, G1, ds, μ1, R1.gh, R1.st, r, ?_⟩
    unfold valOnly at k1
    cases hm : m ds μ1 with
    | none => rw [hm] at k1; exact k1.elim
    | some q =>
      obtain ⟨o, μ2⟩ := q
      rw [hm] at k1
      cases o with
      | exc y => exact k1.elim
      | val d => exact fun v ρ' G' H' ex gh st ro => k1 ρ' G' H' ex.gg ex.pre (R1.after ex gh st) v (repX_after R1 ro)
  · exact k1.elim
end Dv

/-! DwI: a text in a written tuple of texts; what the law's helpers say of a caught error. -/
namespace Dv
open PySem PySem.Spec PyProof.Rows L2
def asStrs : List D → Option (List Str)
  | [] => some []
  | .str x :: ds => (match asStrs ds with
    | some l => some (x :: l)
    | none => none)
  | _ :: _ => none
theorem asStrs_inv {T : Tx} {ρ : List Addr} {G : Hp} : ∀ {l : List D} {ws : List Str} {vs : List V}, asStrs l = some ws → Reps T ρ G vs l → vs = ws.map V.str
  | [], ws, vs, e, r => by unfold asStrs at e; cases e; rw [r.inv0]; rfl
  | d :: ds, ws, vs, e, r => by
    cases d with
    | str x =>
      unfold asStrs at e
      cases h : asStrs ds with
      | none => simp only [h] at e; cases e
      | some l =>
        simp only [h] at e
        cases e
        obtain ⟨v, t, rfl, q, rs⟩ := r.inv
        unfold Rep at q
        rw [q, asStrs_inv h rs]; rfl
    | _ => unfold asStrs at e; cases e
def fInS (neg : Bool) : F2
  | .str x, .tup l, μ => (match asStrs l with
    | some ws => ret (.bl (neg != ws.any fun y => decide (y = x))) μ
    | none => none)
  | _, _, _ => none
theorem inV_strs (x : Str) (ws : List Str) : inV (.str x) (ws.map V.str) = ws.any fun y => decide (y = x) := by
  unfold inV
  rw [List.any_map]
  congr 1
theorem flat_strs (ws : List Str) : (ws.map V.str).all flatV = true := by
  rw [List.all_map]; exact List.all_eq_true.mpr fun _ _ => rfl
theorem opd_inS {X : Cx} (neg : Bool) : OpD (tx X) (rIn X.K neg) (fInS neg) := by
  intro B W σ env ρ G H μ x y d d' Q R hx hy k
  unfold fInS at k
  split at k
  · split at k
    · rename_i ws he
      obtain ⟨a, vs, rfl, q, z, r⟩ := tup_inv hy
      have hv := asStrs_inv he r
      subst hv
      refine ⟨a, _, rfl, .inr (sqG_mono R.gh q).sq, by rw [str_inv hx]; rfl, flat_strs ws, ?_⟩
      rw [str_inv hx, inV_strs]
      cases neg with
      | true => simp only [Bool.true_bne] at k; exact k.here R (.ofR rep_bl)
      | false => simp only [Bool.false_bne] at k; exact k.here R (.ofR rep_bl)
    · exact k.elim
  · exact k.elim
end Dv

/-! DwJ: the head, with defs that close over their class. -/
namespace Dv
open PySem PySem.Spec PyProof.Rows L2
/-- one such def: the class and the method by name -/
structure ClD where
  cls : Str
  meth : Str
  name : Str
  qual : Str
  params : Arguments
  body : List Stmt
  scope : Scope
def ClD.at_ (d : ClD) : Str × Option Str := (d.cls, some d.meth)
/-- what the text gives, but the closure -/
def clW (K : PySem.W.Frag) (p : Str × Option Str) : He.FnW := (He.fnW K p).map fun (a, b, c, d, e, g, _, i) => (a, b, c, d, e, g, [], i)
def ClD.val (d : ClD) : He.FnW := some (d.name, d.qual, d.params, .stmts d.body, d.scope, mainGlobals, [], builtinsNs)
def cellB (K : PySem.W.Frag) (c : Addr) (a : Addr) : Bool := match K.lookup c with
  | some ⟨_, _, .cell (some (.ref b)), _⟩ => decide (a = b)
  | _ => false
def fileB (K : PySem.W.Frag) (file : Str) (c : Value) : Bool := match c with
  | .ref a => (match K.lookup a with
    | some ⟨_, _, .fields vs, _⟩ => (match (vs[2]? : Option Value) with
      | some (.str f _) => file == f
      | _ => false)
    | _ => false)
  | _ => false
def ClD.ok (file : Str) (K : PySem.W.Frag) (d : ClD) : Bool := PySem.W.keepIn K (.ref (He.fAd K d.at_)) && (match K.lookup (He.fAd K d.at_) with
  | some ⟨_, _, .func fd, _⟩ => PySem.W.codeIn K fd.code d.qual && (fileB K file fd.code && ((match fd.defaults with
      | .none => true
      | _ => false) && (match fd.closure with
      | [(n, c)] => n == ("__class__" : Str) && cellB K c (He.ga K d.cls)
      | _ => false)))
  | _ => false)
theorem cellB_ok {K : PySem.W.Frag} {c a : Addr} (h : cellB K c a = true) : ∃ cl cld csl, K.lookup c = some ⟨cl, cld, .cell (some (.ref a)), csl⟩ := by
  unfold cellB at h
  split at h
  · rename_i q
    have := of_decide_eq_true h
    subst this
    exact ⟨_, _, _, q⟩
  · cases h
theorem fileB_ok {K : PySem.W.Frag} {file : Str} {c : Value} (h : fileB K file c = true) : ∃ cda ccl cdd vs ccs f tf, c = .ref cda ∧ K.lookup cda = some ⟨ccl, cdd, .fields vs, ccs⟩ ∧ vs[2]? = some (.str f tf) ∧ (file == f) = true := by
  unfold fileB at h
  split at h
  · rename_i a
    split at h
    · rename_i q
      split at h
      · rename_i q2
        exact ⟨a, _, _, _, _, _, _, rfl, q, q2, h⟩
      · cases h
    · cases h
  · cases h
theorem ClD.supD {P : Program} {K : PySem.W.Frag} {d : ClD} (e : clW K d.at_ = d.val) (c : d.ok P.main.file K = true) : ∃ fd, SupD P K d.name d.qual d.params d.body d.scope (He.fAd K d.at_) fd (He.ga K d.cls) := by
  unfold ClD.ok at c
  rw [Bool.and_eq_true] at c
  obtain ⟨kp, c⟩ := c
  unfold clW He.fnW at e
  split at c
  · rename_i oc od fd osl q
    rw [q] at e
    obtain ⟨n1, n2, n3, n4, n5, n6, n7, n8, n9, n10, n11, n12, n13, n14, n15⟩ := fd
    simp only [Option.map_some, ClD.val, Option.some.injEq, Prod.mk.injEq] at e
    obtain ⟨h1, h2, h3, h4, h5, h6, _, h8⟩ := e
    subst h1 h2 h3 h4 h5 h6 h8
    simp only [Bool.and_eq_true] at c
    obtain ⟨k1, k2, k3, k4⟩ := c
    obtain ⟨cda, ccl, cdd, vs, ccs, f, tf, e1, e2, e3, e4⟩ := fileB_ok k2
    have e1 : n13 = .ref cda := e1
    subst e1
    cases n8 <;> try cases k3
    split at k4
    · rename_i nm cc
      rw [Bool.and_eq_true] at k4
      obtain ⟨g1, g2⟩ := k4
      have := eq_of_beq g1
      subst this
      obtain ⟨cl, cld, csl, hc⟩ := cellB_ok g2
      exact ⟨_, ⟨oc, od, n9, n10, n11, n12, cda, n14, osl, cc, cl, cld, csl, ccl, cdd, vs, ccs, f, tf, rfl, q, k1, e2, e3, e4, hc⟩, kp⟩
    · cases k4
  · cases c
/-! ### the Hook -/
abbrev AlC : Type := He.AlD × Bool × List He.FnW
def obsC (file : Str) (fa : List He.Fa) (fn : List He.DefD) (fc : List ClD) (K : PySem.W.Frag) : AlC := (He.obsD fa fn K, fc.all fun d => d.ok file K, fc.map fun d => clW K d.at_)
def valC (fn : List He.DefD) (fc : List ClD) : AlC := (He.valD fn, true, fc.map ClD.val)
structure SaysC (file : Str) (fa : List He.Fa) (fn : List He.DefD) (fc : List ClD) (K : PySem.W.Frag) : Prop where
  eq : obsC file fa fn fc K = valC fn fc
def obsCG (file : Str) (n : Nat) (fa : List He.Fa) (fn : List He.DefD) (fc : List ClD) (g : Addr → Option Obj) : AlC := obsC file fa fn fc (He.frG g (He.asD g n))
def hookC (file : Str) (n : Nat) (fa : List He.Fa) (fn : List He.DefD) (fc : List ClD) : PySem.W.Hook where
  α := AlC
  obs := fun s => obsCG file n fa fn fc s.heap.get?
  val := fun _ => valC fn fc
  says := fun _ h => ∃ K : PySem.W.Frag, K.In h ∧ SaysC file fa fn fc K
  of := fun _ _ e => ⟨_, He.frG_in, ⟨e⟩⟩
  keeps := by
    rintro _ _ _ ⟨K, hK, c⟩ k
    exact ⟨K, hK.keeps k, c⟩
section
variable {file : Str} {fa : List He.Fa} {fn : List He.DefD} {fc : List ClD} {K : PySem.W.Frag}
theorem obsCG_eq {n : Nat} {g : Addr → Option Obj} {s : Shared} (h : ∀ a, g a = s.heap.get? a) : obsCG file n fa fn fc g = (hookC file n fa fn fc).obs s := by
  have e : g = s.heap.get? := funext h
  subst e; rfl
theorem SaysC.plain (c : SaysC file fa fn fc K) : He.SaysD fa fn K := congrArg Prod.fst c.eq
theorem SaysC.cl {P : Program} (c : SaysC P.main.file fa fn fc K) (i : Nat) {d : ClD} (h : fc[i]? = some d := by rfl) : ∃ fd, SupD P K d.name d.qual d.params d.body d.scope (He.fAd K d.at_) fd (He.ga K d.cls) := by
  have all : (fc.all fun d => d.ok P.main.file K) = true := congrArg (fun z : AlC => z.2.1) c.eq
  have maps : (fc.map fun d => clW K d.at_) = fc.map ClD.val := congrArg (fun z : AlC => z.2.2) c.eq
  have one : (fc.map fun d => clW K d.at_)[i]? = (fc.map ClD.val)[i]? := by rw [maps]
  rw [List.getElem?_map, List.getElem?_map, h] at one
  exact ClD.supD (Option.some.inj one) (List.all_eq_true.mp all d (List.mem_of_getElem? h))
end
end Dv

/-! DwK: the facts of own errors, checked by Bool. -/
namespace Dv
open PySem PySem.Spec PyProof.Rows L2
section
variable {K : PySem.W.Frag} {C D : Addr}
/-- the shape of the class object of an error over the base b -/
def oexShape (b : EBase) (C : Addr) : Option Obj → Bool
  | some ⟨.type t, _, .cls cd, ⟨[_, _, _, _, some (.builtin n), _]⟩⟩ => decide (t = "type") && (decide (n = b.new) && ((!cd.hasDel) && (cd.hasDict && (match cd.mro with
    | .ref C' :: bm => decide (C' = C) && PySem.W.excTail b.tail bm
    | _ => false))))
  | _ => false
theorem oexShape_ok {b : EBase} {o : Option Obj} (h : oexShape b C o = true) : ∃ nm q N bs bm sn sub ab col dd k0 k1 k2 k3 k5, o = some (excClassObj nm q C N bs bm true sn sub ab col dd k0 k1 k2 k3 k5 b.new) ∧ PySem.W.excTail b.tail bm = true := by
  unfold oexShape at h
  split at h
  · rename_i t dd cd k0 k1 k2 k3 n k5
    obtain ⟨nm, bs, mro, N, q, hd, sn, sub, ab, col, hdel⟩ := cd
    simp only [Bool.and_eq_true, Bool.not_eq_true', decide_eq_true_eq] at h
    obtain ⟨h1, h2, h3, h4, h5⟩ := h
    split at h5
    · rename_i C' bm
      simp only [Bool.and_eq_true, decide_eq_true_eq] at h5
      obtain ⟨h5, h6⟩ := h5
      subst h1 h2 h3 h4 h5
      exact ⟨_, _, _, _, bm, _, _, _, _, _, _, _, _, _, _, rfl, h6⟩
    · cases h5
  · cases h
def oexB (b : EBase) (K : PySem.W.Frag) (C : Addr) : Bool := oexShape b C (K.lookup C) && (decide (PySem.W.findIn K (.ref C) "__setattr__" = some (some (.builtin "object.__setattr__"))) && (decide (PySem.W.subIn K (.ref C) (.type "BaseException") = some true) && (decide (PySem.W.typeIn K (.ref C) = some (.type "type")) && PySem.W.keepIn K (.ref C))))
theorem oexB_ok {b : EBase} (h : oexB b K C = true) : OexN K C b := by
  unfold oexB at h
  simp only [Bool.and_eq_true, decide_eq_true_eq] at h
  exact ⟨oexShape_ok h.1, h.2.1, h.2.2.1, h.2.2.2.1, h.2.2.2.2⟩
def supB (b : EBase) (K : PySem.W.Frag) (C D : Addr) : Bool := oexB b K C && ((PySem.W.clsIn K D).isSome && (decide (PySem.W.mroIn K C (.ref D) = some true) && (decide (PySem.W.ks_superIn K C D "__init__" = some (some (.builtin b.ini))) && (decide (PySem.W.subIn K (.ref C) (.type b.nm) = some true) && decide (PySem.W.nsIn K cStatics "thirdparty.any" = some none)))))
theorem supB_ok {b : EBase} (h : supB b K C D = true) : SupC K C D b := by
  unfold supB at h
  simp only [Bool.and_eq_true, decide_eq_true_eq] at h
  exact ⟨oexB_ok h.1, Option.isSome_iff_exists.mp h.2.1, h.2.2.1, h.2.2.2.1, h.2.2.2.2.1, h.2.2.2.2.2⟩
end
/-! ### a head with free checks beside it -/
abbrev AlB : Type := AlC × Bool
def obsB (file : Str) (fa : List He.Fa) (fn : List He.DefD) (fc : List ClD) (bs : List (PySem.W.Frag → Bool)) (K : PySem.W.Frag) : AlB := (obsC file fa fn fc K, bs.all fun b => b K)
def valB (fn : List He.DefD) (fc : List ClD) : AlB := (valC fn fc, true)
structure SaysB (file : Str) (fa : List He.Fa) (fn : List He.DefD) (fc : List ClD) (bs : List (PySem.W.Frag → Bool)) (K : PySem.W.Frag) : Prop where
  eq : obsB file fa fn fc bs K = valB fn fc
def obsBG (file : Str) (n : Nat) (fa : List He.Fa) (fn : List He.DefD) (fc : List ClD) (bs : List (PySem.W.Frag → Bool)) (g : Addr → Option Obj) : AlB := obsB file fa fn fc bs (He.frG g (He.asD g n ++ [cStatics]))
def hookB (file : Str) (n : Nat) (fa : List He.Fa) (fn : List He.DefD) (fc : List ClD) (bs : List (PySem.W.Frag → Bool)) : PySem.W.Hook where
  α := AlB
  obs := fun t => obsBG file n fa fn fc bs t.heap.get?
  val := fun _ => valB fn fc
  says := fun _ h => ∃ K : PySem.W.Frag, K.In h ∧ SaysB file fa fn fc bs K
  of := fun _ _ q => ⟨_, He.frG_in, ⟨q⟩⟩
  keeps := fun _ _ _ ⟨K, hK, c⟩ k => ⟨K, hK.keeps k, c⟩
section
variable {file : Str} {fa : List He.Fa} {fn : List He.DefD} {fc : List ClD} {bs : List (PySem.W.Frag → Bool)} {K : PySem.W.Frag}
theorem obsBG_eq {n : Nat} {g : Addr → Option Obj} {t : Shared} (h : ∀ a, g a = t.heap.get? a) : obsBG file n fa fn fc bs g = (hookB file n fa fn fc bs).obs t := by
  cases (funext h : g = t.heap.get?); rfl
theorem SaysB.says (c : SaysB file fa fn fc bs K) : SaysC file fa fn fc K := ⟨congrArg Prod.fst c.eq⟩
theorem SaysB.chk (c : SaysB file fa fn fc bs K) (i : Nat) {b : PySem.W.Frag → Bool} (h : bs[i]? = some b := by rfl) : b K = true :=
  List.all_eq_true.mp (congrArg Prod.snd c.eq : (bs.all fun b => b K) = true) b (List.mem_of_getElem? h)
end
/-- of the class of this name the attribute f is none's -/
def noB (c f : Str) : PySem.W.Frag → Bool := fun K => decide (PySem.W.findIn K (.ref (He.ga K c)) f = some none)
theorem noB_ok {c f : Str} {K : PySem.W.Frag} (h : noB c f K = true) : PySem.W.findIn K (.ref (He.ga K c)) f = some none := of_decide_eq_true h
/-- errors of the class of this name are caught by the classes of these names -/
def catB (c : Str) (cs : List Str) : PySem.W.Frag → Bool := fun K => decide (PySem.W.exmAny K (.ref (He.ga K c)) (cs.map fun d => .ref (He.ga K d)) = some true)
theorem catB_ok {c : Str} {cs : List Str} {K : PySem.W.Frag} (h : catB c cs K = true) : PySem.W.exmAny K (.ref (He.ga K c)) (cs.map fun d => .ref (He.ga K d)) = some true := of_decide_eq_true h
/-- a class's own init function -/
def iniB (c : Str) : PySem.W.Frag → Bool := fun K => decide (PySem.W.findIn K (.ref (He.ga K c)) "__init__" = some (some (.ref (He.fAd K (c, some "__init__"))))) && decide (PySem.W.typeIn K (.ref (He.fAd K (c, some "__init__"))) = some (.type "function"))
theorem iniB_ok {c : Str} {K : PySem.W.Frag} (h : iniB c K = true) : PySem.W.findIn K (.ref (He.ga K c)) "__init__" = some (some (.ref (He.fAd K (c, some "__init__")))) ∧ PySem.W.typeIn K (.ref (He.fAd K (c, some "__init__"))) = some (.type "function") := by
  unfold iniB at h
  simp only [Bool.and_eq_true, decide_eq_true_eq] at h
  exact h
end Dv

/-! DwL: the law is called, its tables of lambdas in the store. -/
namespace Dv
open PySem PySem.Spec PyProof.Rows L2
/-- what is frozen: all but these -/
def but (H : Hp) (ρ : List Addr) : Hp := fun b => if b ∈ ρ then none else H b
theorem but_same {H : Hp} {ρ : List Addr} : Same (but H ρ) H := fun b u e => by
  unfold but at e
  split at e
  · cases e
  · exact e
section
variable {K : PySem.W.Frag} {mg : Str → Option Value}
theorem sp_startT {m : Fn} {μ' : Mu} {H : Hp} {a : Addr} {ns : List Int} {qs : List ((Str × Option Str) × Str)} {ρ : List Addr} (hm : m [.scr (ns.map D.int)] (qs.map fun z => MObj.tab z.1 z.2) = some (.val (.bl true), μ')) (hl : ns.length ≤ 63)
    (hq : ρ = qs.map fun z => (He.cT K z.1).2) (nd : ρ.Nodup) (ht : ∀ p ∈ ρ, H p = some (.tbl #[])) (hS : SqL K H a (ns.map V.int)) :
    spD ⟨K, mg⟩ 1 m [.ref a] H (fun v _ => v = .bl true) (fun _ _ _ => False) := by
  refine ⟨rfl, ρ, but H ρ, [.scr (ns.map D.int)], qs.map (fun z => MObj.tab z.1 z.2), but_same, ⟨by rw [hq, List.length_map, List.length_map], nd, fun p hp => by unfold but; rw [if_pos hp], fun k o ho => ?_⟩, .cons ?_ .nil, ?_⟩
  · rw [List.getElem?_map] at ho
    cases e : qs[k]? with
    | none => rw [e] at ho; cases ho
    | some q =>
      rw [e] at ho; cases ho
      have hk : ρ[k]? = some (He.cT K q.1).2 := by rw [hq, List.getElem?_map, e]; rfl
      exact ⟨_, hk, rfl, #[], ht _ (List.mem_of_getElem? hk), True.intro, fun pos u hu => nomatch hu⟩
  · unfold Rep
    refine ⟨a, _, rfl, ?_, by rw [List.length_map]; exact Nat.le_trans hl (by decide), reps_ints ns⟩
    rcases hS with h | h
    · left
      have n : a ∉ ρ := fun z => by
        rcases h with h | ⟨o, h⟩ <;> (rw [ht a z] at h; cases h)
      have e : but H ρ a = H a := if_neg n
      unfold Rd
      rw [e]; exact h
    · right; exact h
  · rw [hm]
    intro v ρ' G' H' _ _ _ h
    have h : Rep ⟨K, mg⟩ ρ' G' v (.bl true) := h
    unfold Rep at h; exact h
end
end Dv

/-! DwM: a table of the store grows. -/
namespace Dv
open PySem PySem.Spec PyProof.Rows L2
section
variable {T : Tx} {B : Bs} {ρ : List Addr} {G H : Hp} {σ : L2.St} {env : DEnv} {μ : Mu} {k : Nat} {P : Addr} {pl : Str × Option Str} {q : Str}
theorem RD.setTab {ps : Array Value} (R : RD T B ρ G H σ env μ) (hP : ρ[k]? = some P) (hm : μ[k]? = some (.tab pl q)) (tr : TriplesOk ps.toList)
    (hc : ∀ (pos : Pos) (u : Value), codeAmong pos ps.toList = some u → ∃ c, u = .ref c ∧ G c = some (LamX.CodeO c q)) : RD T B ρ G (upd H P (.tbl ps)) σ env μ := by
  have inP : P ∈ ρ := List.mem_of_getElem? hP
  have gP := R.st.off P inP
  refine ⟨fun b u e => ?_, ⟨R.ext.gg, R.ext.pre, fun b u e => ?_, R.ext.fg, R.ext.fr⟩, R.len, fun i t ht => ?_, R.own, ⟨R.st.len, R.st.nd, R.st.off, fun j m hj => ?_⟩, fun x hx => ?_, R.xn⟩
  · have n : b ≠ P := fun z => by rw [z, gP] at e; cases e
    rw [upd_ne n]; exact R.gh b u e
  · by_cases z : b = P
    · refine ⟨_, by rw [z]; exact upd_same, fun n => ?_⟩
      rw [z] at e n
      have := R.ext.fr P inP n
      rw [this] at e; cases e
    · rw [upd_ne z]; exact R.ext.keep b u e
  · have h := R.slot i t ht
    match t, h with
    | .no, _ => exact True.intro
    | .v _, h => exact h
    | .own l', ⟨p, vs, q1, q2, q3, q4, q5, q6, q7⟩ =>
      have np : p ≠ P := fun z => by rw [z] at q6; exact q6 inP
      exact ⟨p, vs, q1, by rw [upd_ne np]; exact q2, q3, q4, q5, q6, q7⟩
  · obtain ⟨a, ea, r⟩ := R.st.at_ j m hj
    by_cases z : a = P
    · have hjk : j < ρ.length := (List.getElem?_eq_some_iff.mp ea).1
      rw [z] at ea
      have e : j = k := (List.getElem?_inj hjk R.st.nd).mp (ea.trans hP.symm)
      rw [e, hm] at hj
      cases hj
      obtain ⟨a2, ea2, r2⟩ := R.st.at_ k _ hm
      rw [hP] at ea2; cases ea2
      exact ⟨P, ea, r2.1, ps, upd_same, tr, hc⟩
    · exact ⟨a, ea, r.to (fun _ _ g => g) fun o e1 => by rw [upd_ne z]; exact e1⟩
  · obtain ⟨q1, q2, q3, q4⟩ := R.xo x hx
    have np : x.1 ≠ P := fun z => by rw [z] at q3; exact q3 inP
    exact ⟨by rw [upd_ne np]; exact q1, q2, q3, q4⟩
end
end Dv

/-! DwN: a lambda is made, told exactly: the code stood in the table, or one is added. -/
namespace Dv
open PySem PySem.Spec PyProof.Rows L2
/-- the maker's table as it stands -/
structure TabAt (H : Hp) (P : Addr) (q : Str) (ps : Array Value) : Prop where
  at_ : H P = some (.tbl ps)
  tr : TriplesOk ps.toList
  code : ∀ (pos : Pos) (u : Value), codeAmong pos ps.toList = some u → ∃ c, u = .ref c ∧ H c = some (LamX.CodeO c q)
abbrev lamQ (X : Cx) : Str := X.env.qual ++ "<lambda>"
abbrev triple (pos : Pos) (c : Addr) : Array Value := #[rawInt pos.line, rawInt pos.col, .ref c]
/-- what is handed on: the function object at f -/
structure MadeAt (X : Cx) (params : Arguments) (body : Expr) (scope : Scope) (H1 : Hp) (s' : Shared) (f c' : Addr) : Prop where
  ex : ∃ pm ctv : Value, s'.heap.get? f = some (PySem.W.kla_obj "<lambda>" (lamQ X) params body scope (cloFrom X.env.cells scope.names []) pm c' ctv)
  none_ : H1 f = none
  off : f ∉ frs X.stack
  code : H1 c' = some (LamX.CodeO c' (lamQ X))
section
variable {X : Cx} {pins : List (Addr × Obj)} {σ : L2.St} {H : Hp} {s : Shared} {c P : Addr} {params : Arguments} {body : Expr} {scope : Scope} {pos : Pos} {E Q : Value → Shared → Prop} {ps : Array Value}
theorem not_frame (I : Inv X pins σ H s) {f : Addr} (h : s.heap.objs.size ≤ f) : f ∉ frs X.stack := fun m =>
  (List.mem_cons.mp (I.stkSub _ m)).elim (fun e => absurd I.lt (by rw [← e]; exact Nat.not_lt.mpr h)) (fun e => I.nofs h e)
theorem lam_exact (I : Inv X pins σ H s) (TB : LamX.TabB X.base X.mg c P) (own : X.env.code = .ref c) (t : TabAt H P (lamQ X) ps) (nod : defaultsOf params X.env = ([], [])) (clo : ∀ y ∈ scope.names, y.2 = .free → ∃ a, X.env.cells.lookup y.1 = some a)
    (hit : ∀ (f c' : Addr) (s' : Shared), Inv X pins σ H s' → MadeAt X params body scope H s' f c' → Q (.ref f) s')
    (new : ∀ (f c' : Addr) (s' : Shared) (H1 : Hp), H c' = none → H1 = upd (upd H P (.tbl (ps ++ triple pos c'))) c' (LamX.CodeO c' (lamQ X)) → Inv X pins σ H1 s' → MadeAt X params body scope H1 s' f c' → Q (.ref f) s') :
    wpAny (model X.prog X.w) X.A (eval (.Lambda params body scope pos) X.env) Q E s := by
  have onHeap := I.hok P _ t.at_
  have gl := I.mod.glob.keeps I.bk
  have cd := TB.code.keeps I.bk
  have bm := TB.bm.keeps I.bk
  refine PySem.W.kla_eval nod ?_
  match hc : codeAmong pos ps.toList with
  | some u =>
    obtain ⟨c', rfl, known⟩ := t.code pos u hc
    exact PySem.W.kla_makeFunctionHit (closure_ok clo) I.ok.glob gl own cd onHeap t.tr hc bm fun ctv h' tk old len =>
      hit h'.objs.size c' _ (I.kept fun b o e => Heap.get?_push_of_some _ (old b o e)) ⟨⟨_, ctv, Heap.get?_push_size _ rfl⟩, I.hok.fresh len, not_frame I len, known⟩
  | none =>
    refine PySem.W.kla_makeFunction (closure_ok clo) I.ok.glob gl own cd onHeap t.tr hc TB.gP bm fun c' ctv h' tk old ge lt rec tab => ?_
    obtain ⟨_, oc, vs, tk2, e2, at2, dt, nm⟩ := rec
    cases e2
    have len : s.heap.objs.size ≤ h'.objs.size := Nat.le_of_lt (Nat.lt_of_le_of_lt ge lt)
    have fresh : H h'.objs.size = none := I.hok.fresh len
    have Pne : h'.objs.size ≠ P := ne_of_none t.at_ fresh |>.symm
    refine new h'.objs.size c' _ _ (I.hok.fresh ge) rfl (LamX.inv_table (more := triple pos c') I t.at_ (fun b o nb e => Heap.get?_push_of_some _ (old b o nb e)) (Heap.get?_push_of_some _ tab) ge ⟨oc, vs, tk2, Heap.get?_push_of_some _ at2, dt, nm⟩) ⟨⟨_, ctv, Heap.get?_push_size _ rfl⟩, ?_, not_frame I len, upd_same⟩
    rw [upd_ne (Nat.ne_of_gt lt), upd_ne Pne]
    exact fresh
end
end Dv

/-! DwO: the making of a lambda at the level of deep values. -/
namespace Dv
open PySem PySem.Spec PyProof.Rows L2
section
variable {X : Cx} {B : Bs} {ρ : List Addr} {G H : Hp} {σ : L2.St} {env : DEnv} {μ : Mu} {k : Nat} {c P : Addr} {pl : Str × Option Str} {q : Str} {T : Tx}
theorem RD.tabAt (R : RD T B ρ G H σ env μ) (hP : ρ[k]? = some P) (hm : μ[k]? = some (.tab pl q)) : ∃ ps, TabAt H P q ps ∧ ∀ (pos : Pos) (u : Value), codeAmong pos ps.toList = some u → ∃ a, u = .ref a ∧ G a = some (LamX.CodeO a q) := by
  obtain ⟨a, ea, r⟩ := R.st.at_ k _ hm
  rw [hP] at ea
  cases ea
  obtain ⟨_, ps, e1, e2, e3⟩ := r
  exact ⟨ps, ⟨e1, e2, fun pos u hu => (let ⟨a, x, y⟩ := e3 pos u hu; ⟨a, x, R.gh _ _ y⟩)⟩, e3⟩
theorem RD.lam {ps : Array Value} {pos : Pos} {c' : Addr} (R : RD T B ρ G H σ env μ) (hP : ρ[k]? = some P) (hm : μ[k]? = some (.tab pl q)) (t : TabAt H P q ps) (old : ∀ (pos : Pos) (u : Value), codeAmong pos ps.toList = some u → ∃ a, u = .ref a ∧ G a = some (LamX.CodeO a q)) (n : H c' = none) :
    RD T B ρ (upd G c' (LamX.CodeO c' q)) (upd (upd H P (.tbl (ps ++ triple pos c'))) c' (LamX.CodeO c' q)) σ env μ := by
  have ne : P ≠ c' := ne_of_none t.at_ n
  have gn : G c' = none := (R.fresh_ n).1
  have R1 := R.alloc (o := LamX.CodeO c' q) n
  have eL : (ps ++ triple pos c').toList = ps.toList ++ [rawInt pos.line, rawInt pos.col, .ref c'] := by simp [triple]
  have R2 := R1.setTab (ps := ps ++ triple pos c') hP hm (by rw [eL]; exact PySem.TriplesOk_snoc _ _ _ _ t.tr) fun pos' u hu => by
    rw [eL] at hu
    rcases LamX.among_app _ t.tr hu with z | z
    · obtain ⟨a, e1, e2⟩ := old pos' u z
      exact ⟨a, e1, same_upd gn _ _ e2⟩
    · exact ⟨c', z, upd_same⟩
  have sw : upd (upd H c' (LamX.CodeO c' q)) P (.tbl (ps ++ triple pos c')) = upd (upd H P (.tbl (ps ++ triple pos c'))) c' (LamX.CodeO c' q) := by
    funext b
    by_cases h1 : b = P
    · rw [h1, upd_same, upd_ne ne, upd_same]
    · rw [upd_ne h1]
      by_cases h2 : b = c'
      · rw [h2, upd_same, upd_same]
      · rw [upd_ne h2, upd_ne h2, upd_ne h1]
  rw [sw] at R2
  exact R2
end
end Dv

/-! DwP: the state in which a lambda's body is read: the caller's plain names alone. -/
namespace Dv
open PySem PySem.Spec PyProof.Rows L2
def unown : SV → SV
  | .own _ => .no
  | s => s
theorem unown_not {env : DEnv} {i : Nat} {l : List D} (h : (env.map unown)[i]? = some (.own l)) : False := by
  rw [List.getElem?_map] at h
  cases e : env[i]? with
  | none => rw [e] at h; cases h
  | some t => rw [e] at h; cases t <;> cases h
section
variable {B : Bs} {ρ : List Addr} {G H : Hp} {σ : L2.St} {env : DEnv} {μ : Mu} {T : Tx}
theorem RD.unown (R : RD T B ρ G H σ env μ) : RD T ⟨H, G, ρ, []⟩ ρ G H σ (env.map Dv.unown) μ := by
  refine ⟨R.gh, Ext.refl _ _ _, by rw [List.length_map]; exact R.len, fun i t ht => ?_, fun i j l l' p h1 => (unown_not h1).elim, R.st, fun x hx => absurd hx List.not_mem_nil, List.nodup_nil⟩
  rw [List.getElem?_map] at ht
  cases e : env[i]? with
  | none => rw [e] at ht; cases ht
  | some u =>
    rw [e] at ht
    have h := R.slot i u e
    cases u with
    | no => cases ht; exact True.intro
    | v d => cases ht; exact h
    | own l => cases ht; exact True.intro
end
end Dv

/-! DwQ: a def called with a lambda, told exactly. -/
namespace Dv
open PySem PySem.Spec PyProof.Rows L2
abbrev Told : Type := (XK → Hp → VK → Prop) → Hp → VK → Prop
/-- the reading: the lambda is made (its code known or new), then what the def makes of it -/
def tLamE (P : Addr) (q : Str) (pos : Pos) (G : Told) (t : XK → TE) : TE := fun σ H Q => ∃ ps, TabAt H P q ps ∧ G (fun E H' Q' => t E σ H' Q') H Q ∧
  ∀ a, H a = none → G (fun E H' Q' => t E σ H' Q') (upd (upd H P (.tbl (ps ++ triple pos a))) a (LamX.CodeO a q)) Q
/-- the def x at g, its one parameter a -/
structure OneArg (X : Cx) (x a : Str) (g : Addr) (cdg : Value) (bg : List Stmt) (sg : Scope) (Ng : List Str) : Prop where
  ex : ∃ (pg : Arguments) (dV kV doc pm ct oc : Value) (an od : Option Addr) (osl : Array (Option Value)), X.K.lookup g = some ⟨oc, od, .func (PySem.W.fnOf x x pg bg sg dV kV doc pm an cdg ct), osl⟩ ∧ L2.Binds X.K (PySem.W.fnOf x x pg bg sg dV kV doc pm an cdg ct) [a] []
  code : PySem.W.codeIn X.K cdg x = true
  kept : PySem.W.keepIn X.K (.ref g) = true
  sc : FnScope Ng [a] sg
  zero : Ng[0]? = some a
  vis : Vis sg a
  d1 : (a == ("__debug__" : Str)) = false
  d2 : (a == ("__classdict__" : Str)) = false
section
variable {X : Cx} {x a : Str} {g c P : Addr} {cdg : Value} {bg : List Stmt} {sg : Scope} {Ng : List Str} {k : Nat} {params : Arguments} {body : Expr} {scope : Scope} {t : XK → TE} {p lpos pos : Pos} {G : Told}
theorem pe_lamE (gl : Gl X x) (named : X.mg x = some (.ref g)) (nd : (x == ("__debug__" : Str)) = false) (O : OneArg X x a g cdg bg sg Ng) (gives : LamX.GivesTo X Ng x sg g cdg bg a (lamQ X) G)
    (TB : LamX.TabB X.base X.mg c P) (own : X.env.code = .ref c) (hr : Room (k + 2) X.A) (L : LamX.LamS X.env.scope scope) (nod : defaultsOf params X.env = ([], []))
    (none_ : ∀ (q : Str) (cl : List (Str × Addr)) (pm cv ctv : Value), bindArgs (PySem.W.kla_fn "<lambda>" q params body scope cl pm cv ctv) ⟨[], []⟩ = pure [])
    (read : ∀ (A : Around) (outer : List Env) (s : Shared) (H : Hp) (E : XK) (f c' : Addr), Room k (A.deeper (LamX.lamEnv X scope s.heap.objs.size f c')) → PE (LamX.lamCx X A outer s H E scope f c') body (t E)) :
    PE X (.Call (.Name x p) [.Lambda params body scope lpos] [] pos) (tLamE P (lamQ X) lpos G t) := by
  obtain ⟨pg, dV, kV, doc, pm0, ct, oc, an, od, osl, lk, binds⟩ := O.ex
  refine ⟨fun pins s σ H Q I ⟨ps, tab, hit, new⟩ => ?_⟩
  have go : ∀ (f c' : Addr) (s' : Shared) (H1 : Hp), Inv X pins σ H1 s' → MadeAt X params body scope H1 s' f c' → G (fun E H' Q' => t E σ H' Q') H1 Q →
      codeAny (model X.prog X.w) X.A (.call (.ref g) ⟨[.ref f], []⟩) (CR C8.CX0 X.stack X.prog X.w H1 s' Q C8.E0) s' := fun f c' s' H1 J M told => by
    obtain ⟨pm, ctv, atF⟩ := M.ex
    refine LamX.run_ofS (N := Ng) (ps := [a]) (us := [.ref f]) (vs := [.ref f]) lk O.code O.sc hr J.env0 (binds s' [.ref f] J.kIn rfl) (.cons rfl .nil) rfl fun room => ?_
    obtain ⟨u, hu, run⟩ := gives f c' s' H1 Q _ (fun W pn xe E p1 p2 tk hW => LamX.pe_act (i := 0) J L atF M.none_ M.off (none_ _ _ _ _ _) tk hW room (fun A outer s H r2 => read A outer s H E f c' r2) O.zero O.vis O.d1 O.d2) M.code told
    exact ⟨u, hu.nox, run⟩
  refine wpAny_Call_Name_kw (ld_glob I gl named ?_ nd)
  refine PySem.W.callWith_K (h₀ := X.base) I.ok.mod.kin O.kept ?_ (by rfl) (by rfl)
  show wpAny _ _ (spliced ((false, eval (.Lambda params body scope lpos) X.env) :: backTo pos (starEach [] X.env))) _ _ s
  have both : ∀ (f c' : Addr) (s' : Shared) (H1 : Hp), Inv X pins σ H1 s' → MadeAt X params body scope H1 s' f c' → G (fun E H' Q' => t E σ H' Q') H1 Q → wpAny (model X.prog X.w) X.A (call (.ref g) [.ref f]) (fun u s2 => ∃ v H2, Inv X pins σ H2 s2 ∧ L2.RelV v u ∧ Q v H2) X.xe s' := fun f c' s' H1 J M told => by
    refine wpAny_call (codeAny_mono (go f c' s' H1 J M told) fun r s2 hq => ?_)
    match r, hq with
    | .error e, hq => exact (show False from hq).elim
    | .ok (.ret u), hq => exact J.after hq
    | .ok .next, hq => exact False.elim hq
    | .ok .brk, hq => exact False.elim hq
    | .ok .cont, hq => exact False.elim hq
  refine Calls.spliced_cons (lam_exact I TB own tab nod (L.has I.ok) (fun f c' s' J M => ?_) fun f c' s' H1 n e J M => ?_)
  · exact Calls.spliced_nil ⟨J.kIn, both f c' s' H J M hit⟩
  · exact Calls.spliced_nil ⟨J.kIn, both f c' s' H1 J M (by rw [e]; exact new c' n)⟩
end
end Dv

/-! DwR: what a def got is called: the lambda's body is read at its maker's state; what it lets out is told of the caller's very state. -/
namespace Dv
open PySem PySem.Spec PyProof.Rows L2
section
variable {X : Cx} {pins : List (Addr × Obj)} {σ : L2.St} {H : Hp} {s : Shared} {CXg : CXT} {Eg : XK} {Ng : List Str} {qg : Str} {sg : Scope} {g f c' : Addr} {cdg pm ctv : Value} {params : Arguments} {body : Expr} {scope : Scope} {k i : Nat} {a : Str} {pn : List (Addr × Obj)} {xe : Value → Shared → Prop} {W : WX} {t : XK → TE} {p1 p2 : Pos}
/-- the asker's context, in a try -/
abbrev askCx (X : Cx) (CXg : CXT) (Ng : List Str) (qg : Str) (sg : Scope) (g : Addr) (cdg : Value) (s : Shared) (H : Hp) (Eg : XK) (pn : List (Addr × Obj)) (xe : Value → Shared → Prop) : Cx :=
  (cxOf CXg X.prog X.w X.K X.mg X.base Ng qg sg g cdg X.A X.stack s H Eg).tr pn xe
theorem pe_ask (J : Inv X pins σ H s) (L : LamX.LamS X.env.scope scope) (atF : s.heap.get? f = some (PySem.W.kla_obj "<lambda>" (lamQ X) params body scope (cloFrom X.env.cells scope.names []) pm c' ctv)) (newF : H f = none) (off : f ∉ frs X.stack)
    (none_ : bindArgs (PySem.W.kla_fn "<lambda>" (lamQ X) params body scope (cloFrom X.env.cells scope.names []) pm (.ref c') ctv) ⟨[], []⟩ = pure [])
    (tk : Takes (askCx X CXg Ng qg sg g cdg s H Eg pn xe) W) (room : Room (k + 1) (X.A.deeper (envOfC qg sg s.heap.objs.size g cdg)))
    (read : ∀ (A : Around) (outer : List Env) (s0 : Shared) (H : Hp) (E : XK), Room k (A.deeper (LamX.lamEnv X scope s0.heap.objs.size f c')) → PE (LamX.lamCx X A outer s0 H E scope f c') body (t E))
    (zero : Ng[i]? = some a) (vis : Vis sg a) (d1 : (a == ("__debug__" : Str)) = false) (d2 : (a == ("__classdict__" : Str)) = false) :
    PE (askCx X CXg Ng qg sg g cdg s H Eg pn xe) (.Call (.Name a p1) [] [] p2) (fun τ H1 Q => τ[i]? = some (some (.ref f)) ∧ H1 c' = some (LamX.CodeO c' (lamQ X)) ∧ t (fun cls d H2 => W cls d τ H2) σ H1 Q) := by
  constructor
  rintro pinsZ s0 τ H1 Q I0 ⟨slot, code, told⟩
  apply wpAny_Call_Name_kw
  refine thn ((pe_var (pos := p1) (i := i) zero vis d1 d2).run pinsZ s0 τ H1 (fun v H2 => v = .ref f ∧ H2 = H1) I0 ⟨.ref f, slot, rfl, rfl⟩) ?_
  rintro u s1 ⟨v2, H2, I1, rel, e1, e2⟩
  rw [e2] at I1
  rw [e1] at rel
  have eu : u = Value.ref f := rel
  subst eu
  have at1 := I1.base.keep f _ atF newF off List.not_mem_nil
  have deep := room.depth
  obtain ⟨⟨oc, vs, tk0, c1, c2, c3⟩, _, _⟩ := I1.hok c' _ code
  apply PySem.W.callWith_F0 ⟨_, _, _, _, at1⟩
  have inner : ∀ h2 : Heap, h2.Ns s1.heap.objs.size (fun y => ([] : List (Str × Value)).reverse.lookup y) → (∀ b o, s1.heap.get? b = some o → h2.get? b = some o) →
      Inv (LamX.lamCx X (askCx X CXg Ng qg sg g cdg s H Eg pn xe).A (askCx X CXg Ng qg sg g cdg s H Eg pn xe).stack s1 H1 (fun cls d H2 => W cls d τ H2) scope f c') [] σ H1 { s1 with heap := h2, toks := s1.toks + ([] : List (Str × Value)).length } :=
    fun h2 ns grown => LamX.lam_start2 J L I1.env0 room.hd (show Un (frs X.stack) [] H H1 s.heap s1.heap from I1.base) ns grown
  have runs : codeAny (model X.prog X.w) (askCx X CXg Ng qg sg g cdg s H Eg pn xe).A (.call (.ref f) ⟨[], []⟩) (CR (L2.CX X.prog X.w) (askCx X CXg Ng qg sg g cdg s H Eg pn xe).stack X.prog X.w H1 s1 Q fun cls d H2 => W cls d τ H2) s1 := by
    apply PySem.W.kla_callFunE deep at1 rfl L.co L.gen rfl ⟨c', oc, vs, tk0, rfl, c1, c2, c3⟩
    rw [none_]
    refine wpAny_pure (wpAny_newFunctionEnv (fun y hy => (L.own y hy).2) (fun y hy => nomatch hy) (fun h2 ns sub => ?_) L.kind)
    refine ⟨I1.nolimit.fresh _ sub, PySem.W.kla_codeExpr ?_⟩
    have J2 := inner h2 ns fun b o e => sub.extBut b o (Nat.ne_of_lt (Heap.lt_size e)) (Heap.get?_push_of_some _ e)
    refine wpAny_mono ((read _ _ s1 _ _ (room.deeper _)).run [] _ σ _ Q J2 told) ?_ fun _ _ z => z
    rintro v s2 ⟨w2, H3, J3, rv, q⟩
    exact ⟨w2, H3, J3.os, J3.bare, J3.base, J3.hok, rv, q⟩
  refine wpAny_call (codeAny_mono runs fun r s2 out => ?_)
  match r, out with
  | .error e, out => exact passAt tk τ pinsZ _ s1 e s2 I1 out
  | .ok (.ret u), out => exact I1.after out
  | .ok .next, out => exact False.elim out
  | .ok .brk, out => exact False.elim out
  | .ok .cont, out => exact False.elim out
end
end Dv

/-! DwS: x(lambda: e) at the level of deep values: what the asker makes of e's meaning. -/
namespace Dv
open PySem PySem.Spec PyProof.Rows L2
/-- the asker's promise -/
def GivesD (X : Cx) (Ng : List Str) (x : Str) (sg : Scope) (g : Addr) (cdg : Value) (bg : List Stmt) (a : Str) (q : Str) (TT : Told) : Prop :=
  ∀ (f c' : Addr) (s : Shared) (H : Hp) (Q : VK) (tl : XK → Hp → VK → Prop),
    (∀ (W : WX) (pn : List (Addr × Obj)) (xe : Value → Shared → Prop) (p1 p2 : Pos), Takes (askCx X C8.CX0 Ng x sg g cdg s H C8.E0 pn xe) W →
      PE (askCx X C8.CX0 Ng x sg g cdg s H C8.E0 pn xe) (.Call (.Name a p1) [] [] p2) (fun τ H1 Q1 => τ[0]? = some (some (.ref f)) ∧ H1 c' = some (LamX.CodeO c' q) ∧ tl (fun cls d H2 => W cls d τ H2) H1 Q1)) →
    H c' = some (LamX.CodeO c' q) → TT tl H Q →
    ∃ t, PSs (cxOf C8.CX0 X.prog X.w X.K X.mg X.base Ng x sg g cdg X.A X.stack s H C8.E0).nox bg t ∧ t { nx := fun _ H' => Q .non H', rt := Q } (L2.start Ng [.ref f]) H
section
variable {X : Cx} {x a : Str} {g c P : Addr} {cdg : Value} {bg : List Stmt} {sg : Scope} {Ng : List Str} {k : Nat} {params : Arguments} {body : Expr} {scope : Scope} {t : XK → TE} {p lpos pos : Pos} {G : Told}
theorem pe_lamD (gl : Gl X x) (named : X.mg x = some (.ref g)) (nd : (x == ("__debug__" : Str)) = false) (O : OneArg X x a g cdg bg sg Ng) (gives : GivesD X Ng x sg g cdg bg a (lamQ X) G)
    (TB : LamX.TabB X.base X.mg c P) (own : X.env.code = .ref c) (hr : Room (k + 2) X.A) (L : LamX.LamS X.env.scope scope) (nod : defaultsOf params X.env = ([], []))
    (none_ : ∀ (q : Str) (cl : List (Str × Addr)) (pm cv ctv : Value), bindArgs (PySem.W.kla_fn "<lambda>" q params body scope cl pm cv ctv) ⟨[], []⟩ = pure [])
    (read : ∀ (A : Around) (outer : List Env) (s : Shared) (H : Hp) (E : XK) (f c' : Addr), Room k (A.deeper (LamX.lamEnv X scope s.heap.objs.size f c')) → PE (LamX.lamCx X A outer s H E scope f c') body (t E)) :
    PE X (.Call (.Name x p) [.Lambda params body scope lpos] [] pos) (tLamE P (lamQ X) lpos G t) := by
  obtain ⟨pg, dV, kV, doc, pm0, ct, oc, an, od, osl, lk, binds⟩ := O.ex
  refine ⟨fun pins s σ H Q I ⟨ps, tab, hit, new⟩ => ?_⟩
  have both : ∀ (f c' : Addr) (s' : Shared) (H1 : Hp), Inv X pins σ H1 s' → MadeAt X params body scope H1 s' f c' → G (fun E H' Q' => t E σ H' Q') H1 Q → wpAny (model X.prog X.w) X.A (call (.ref g) [.ref f]) (fun u s2 => ∃ v H2, Inv X pins σ H2 s2 ∧ L2.RelV v u ∧ Q v H2) X.xe s' := fun f c' s' H1 J M told => by
    obtain ⟨pm, ctv, atF⟩ := M.ex
    refine wpAny_call (codeAny_mono (LamX.run_ofS (CX := C8.CX0) (E := C8.E0) (Q := Q) (N := Ng) (ps := [a]) (us := [.ref f]) (vs := [.ref f]) lk O.code O.sc hr J.env0 (binds s' [.ref f] J.kIn rfl) (.cons rfl .nil) rfl fun room => ?_) fun r s2 hq => ?_)
    · obtain ⟨u, hu, run⟩ := gives f c' s' H1 Q _ (fun W pn xe p1 p2 tk => pe_ask (i := 0) J L atF M.none_ M.off (none_ _ _ _ _ _) tk room (fun A outer s H E r2 => read A outer s H E f c' r2) O.zero O.vis O.d1 O.d2) M.code told
      exact ⟨u, hu.nox, run⟩
    · match r, hq with
      | .error e, hq => exact (show False from hq).elim
      | .ok (.ret u), hq => exact J.after hq
      | .ok .next, hq => exact False.elim hq
      | .ok .brk, hq => exact False.elim hq
      | .ok .cont, hq => exact False.elim hq
  refine wpAny_Call_Name_kw (ld_glob I gl named ?_ nd)
  refine PySem.W.callWith_K (h₀ := X.base) I.ok.mod.kin O.kept ?_ (by rfl) (by rfl)
  show wpAny _ _ (spliced ((false, eval (.Lambda params body scope lpos) X.env) :: backTo pos (starEach [] X.env))) _ _ s
  refine Calls.spliced_cons (lam_exact I TB own tab nod (L.has I.ok) (fun f c' s' J M => ?_) fun f c' s' H1 n e J M => ?_)
  · exact Calls.spliced_nil ⟨J.kIn, both f c' s' H J M hit⟩
  · exact Calls.spliced_nil ⟨J.kIn, both f c' s' H1 J M (by rw [e]; exact new c' n)⟩
end
/-! ### asked, at the level of deep values -/
def dAsk (f : Addr) (ask : Mu → Res D) : DEx := fun (env : DEnv) μ => match (env[(0 : Nat)]? : Option SV) with
  | some (.v (.fn f')) => if f' = f then ask μ else none
  | _ => none
theorem de_ask {Y : Cx} {B : Bs} {W : WX} {e : Expr} {f c' : Addr} {q : Str} {tl : XK → Hp → VK → Prop} {ask : Mu → Res D} (h : PE Y e (fun τ H1 Q1 => τ[0]? = some (some (.ref f)) ∧ H1 c' = some (LamX.CodeO c' q) ∧ tl (fun cls d H2 => W cls d τ H2) H1 Q1))
    (code : B.H0 c' = some (LamX.CodeO c' q)) (off : c' ∉ B.ρ0)
    (told : ∀ (E : XK) (Q' : VK) (ρ' : List Addr) (G' H' : Hp) (μ' : Mu), Ext B.ρ0 B.G0 B.H0 ρ' G' H' → Same G' H' → StR (tx Y) ρ' G' H' μ' → KC (tx Y) ρ' G' H' Q' E (ask μ') → tl E H' Q') : DE Y B W e (dAsk f ask) := by
  refine ⟨peImp h fun σ H Q ⟨ρ, G, env, μ, R, k⟩ => ?_⟩
  unfold dAsk at k
  split at k
  · rename_i f' h0
    split at k
    · rename_i ef
      subst ef
      obtain ⟨v, e1, e2⟩ := R.slot 0 _ h0
      unfold Rep at e2
      subst e2
      exact ⟨e1, R.ext.old code off, told _ Q ρ G H μ R.ext R.gh R.st (kc_of (m := fun _ μ => ask μ) (ds := []) R k)⟩
    · exact k.elim
  · exact k.elim
/-- the promise of a def that asks: m, its body's meaning by what it asks -/
def asksD (T : Tx) (n : Nat) (m : DEx → DSt) : Told := fun tl H Q => ∃ (ρ : List Addr) (G : Hp) (μ : Mu) (ask : Mu → Res D), Same G H ∧ StR T ρ G H μ ∧
  (∀ (E : XK) (Q' : VK) (ρ' : List Addr) (G' H' : Hp) (μ' : Mu), Ext ρ G H ρ' G' H' → Same G' H' → StR T ρ' G' H' μ' → KC T ρ' G' H' Q' E (ask μ') → tl E H' Q') ∧ ∀ f : Addr, KC T ρ G H Q (fun _ _ _ => False) (cleanD (defD n (m (dAsk f ask))) [.fn f] μ)
theorem StR.no_code {T : Tx} {ρ : List Addr} {G H : Hp} {μ : Mu} (st : StR T ρ G H μ) {c : Addr} {q : Str} (h : H c = some (LamX.CodeO c q)) : c ∉ ρ := fun m => by
  obtain ⟨k, hk⟩ := List.mem_iff_getElem?.mp m
  have lt : k < μ.length := by rw [← st.len]; exact (List.getElem?_eq_some_iff.mp hk).1
  obtain ⟨a, ea, r⟩ := st.at_ k μ[k] (by simp [lt])
  rw [hk] at ea; cases ea
  match μ[k], r with
  | .src s, ⟨l, e1, _⟩ => rw [h] at e1; unfold LamX.CodeO at e1; cases e1
  | .tab p' q', ⟨_, ps, e1, _⟩ => rw [h] at e1; unfold LamX.CodeO at e1; cases e1
  | .slf c' fs, ⟨C, dx, vf, _, e1, _⟩ => rw [h] at e1; unfold LamX.CodeO at e1; cases e1
theorem gives_of {X : Cx} {Ng : List Str} {x a q : Str} {sg : Scope} {g : Addr} {cdg : Value} {bg : List Stmt} {m : DEx → DSt} (hN : Ng.length = n)
    (hbody : ∀ (s : Shared) (H : Hp) (B : Bs) (A : DEx), (∀ (W : WX) (pn : List (Addr × Obj)) (xe : Value → Shared → Prop) (p1 p2 : Pos), Takes (askCx X C8.CX0 Ng x sg g cdg s H C8.E0 pn xe) W → DE (askCx X C8.CX0 Ng x sg g cdg s H C8.E0 pn xe) B W (.Call (.Name a p1) [] [] p2) A) →
      DSs (cxOf C8.CX0 X.prog X.w X.K X.mg X.base Ng x sg g cdg X.A X.stack s H C8.E0).nox B W0 bg (m A)) : GivesD X Ng x sg g cdg bg a q (asksD (tx X) n m) := by
  intro f c' s H Q tl act code ⟨ρ, G, μ, ask, gh, st, hask, out⟩
  subst hN
  have d := hbody s H ⟨H, G, ρ, []⟩ (dAsk f ask) fun W pn xe p1 p2 tk => de_ask (act W pn xe p1 p2 tk) code (st.no_code code) hask
  refine ⟨_, d.run, ρ, G, envD Ng.length [.fn f], μ, start_rd gh st (.one (by unfold Rep; rfl)), ?_⟩
  have told := out f
  unfold cleanD defD at told
  cases e : m (dAsk f ask) (envD Ng.length [.fn f]) μ with
  | none => rw [e] at told; exact told.elim
  | some z =>
    obtain ⟨o, env', μ'⟩ := z
    rw [e] at told
    cases o with
    | exc y => exact fun σ' ρ' G' H' cls dd s p R er => told cls dd ρ' G' H' R.ext R.gh R.st er
    | val fl =>
      cases fl with
      | brk => exact told.elim
      | ct => exact told.elim
      | nx => exact fun σ' ρ' G' H' s p R => told .non ρ' G' H' R.ext R.gh R.st (show Rep _ _ _ _ _ from rep_non)
      | ret d =>
        have told : KC (tx X) ρ G H Q (fun _ _ _ => False) (if nobor d then some (.val d, μ') else none) := told
        split at told
        · rename_i clean
          exact fun σ' env2 ρ' G' H' v s p R hv => told v ρ' G' H' R.ext R.gh R.st (repO_of hv clean)
        · exact told.elim
/-! ### the call with a lambda -/
/-- the lambda's meaning, by its body's at its maker's names -/
def askOf (mb : DEx) (env : DEnv) : Mu → Res D := fun μ => match mb (env.map unown) μ with
  | some (.val d, μ') => if nobor d then some (.val d, μ') else none
  | r => r
/-- k: where the maker's table stands; why: what the asker makes of what it asks -/
def dWhy (k : Nat) (pl : Str × Option Str) (q : Str) (why : (Mu → Res D) → Mu → Res D) (mb : DEx) : DEx := fun env μ => match μ[k]? with
  | some (.tab p' q') => if p' = pl ∧ q' = q then (match why (askOf mb env) μ with
    | some (.val d, μ') => some (.val d, μ')
    | _ => none) else none
  | _ => none
section
variable {X : Cx} {B : Bs} {W : WX} {x a : Str} {g : Addr} {cdg : Value} {bg : List Stmt} {sg : Scope} {Ng : List Str} {k j n : Nat} {pl : Str × Option Str} {params : Arguments} {body : Expr} {scope : Scope} {p lpos pos : Pos} {m : DEx → DSt} {why : (Mu → Res D) → Mu → Res D} {mb : DEx}
theorem de_lamD {q : Str} (gl : Gl X x) (named : X.mg x = some (.ref g)) (nd : (x == ("__debug__" : Str)) = false) (O : OneArg X x a g cdg bg sg Ng) (gives : GivesD X Ng x sg g cdg bg a (lamQ X) (asksD (tx X) n m)) (hw : ∀ f ask μ d μ', why ask μ = some (.val d, μ') → cleanD (defD n (m (dAsk f ask))) [.fn f] μ = some (.val d, μ'))
    (TB : LamX.TabB X.base X.mg (He.cT X.K pl).1 (He.cT X.K pl).2) (own : X.env.code = .ref (He.codeOf X.K pl)) (hr : Room (j + 2) X.A) (L : LamX.LamS X.env.scope scope) (nod : defaultsOf params X.env = ([], []))
    (none_ : ∀ (q : Str) (cl : List (Str × Addr)) (pm cv ctv : Value), bindArgs (PySem.W.kla_fn "<lambda>" q params body scope cl pm cv ctv) ⟨[], []⟩ = pure [])
    (read : ∀ (A : Around) (outer : List Env) (s : Shared) (H : Hp) (E : XK) (f c' : Addr) (B' : Bs), Room j (A.deeper (LamX.lamEnv X scope s.heap.objs.size f c')) → DE (LamX.lamCx X A outer s H E scope f c') B' (fun cls d _ H => E cls d H) body mb) (hq : lamQ X = q := by rfl) :
    DE X B W (.Call (.Name x p) [.Lambda params body scope lpos] [] pos) (dWhy k pl q why mb) := by
  subst hq
  refine ⟨peImp (pe_lamD (t := fun E σ H Q => ∃ B', rdE (tx X) B' (fun cls d _ H => E cls d H) mb σ H Q) gl named nd O gives TB own hr L nod none_ fun A outer s H E f c' room => ⟨fun pins s1 σ1 H1 Q1 I1 ⟨B', q⟩ => (read A outer s H E f c' B' room).run.run pins s1 σ1 H1 Q1 I1 q⟩) fun σ H Q ⟨ρ, G, env, μ, R, kk⟩ => ?_⟩
  unfold dWhy at kk
  split at kk
  · rename_i p' q' hm
    split at kk
    · rename_i eq_
      obtain ⟨ep, eq_⟩ := eq_
      subst ep eq_
      have hP : ρ[k]? = some (He.cT X.K p').2 := by
        obtain ⟨a, ea, r⟩ := R.st.at_ k _ hm
        rw [ea, r.1]
      obtain ⟨ps, tab, old⟩ := R.tabAt hP hm
      have tell : ∀ (G1 H1 : Hp), Same G G1 → RD (tx X) B ρ G1 H1 σ env μ → asksD (tx X) n m (fun E H' Q' => ∃ B', rdE (tx X) B' (fun cls d _ H => E cls d H) mb σ H' Q') H1 Q := fun G1 H1 s1 R1 => by
        refine ⟨ρ, G1, μ, askOf mb env, R1.gh, R1.st, fun E Q' ρ' G' H' μ' ex gh st told => ?_, fun f => ?_⟩
        · have R2 := (R1.after ex gh st).unown
          refine ⟨_, ρ', G', env.map unown, μ', R2, ?_⟩
          unfold askOf at told
          cases e : mb (env.map unown) μ' with
          | none => rw [e] at told; exact told.elim
          | some z =>
            obtain ⟨o, μ2⟩ := z
            rw [e] at told
            cases o with
            | exc y => exact fun ρ2 G2 H2 cls dd s p R3 er => told cls dd ρ2 G2 H2 R3.ext R3.gh R3.st er
            | val d =>
              have told : KC (tx X) ρ' G' H' Q' E (if nobor d then some (.val d, μ2) else none) := told
              split at told
              · rename_i clean
                exact fun ρ2 G2 H2 s p R3 v hv => told v ρ2 G2 H2 R3.ext R3.gh R3.st (repO_of hv clean)
              · exact told.elim
        · split at kk
          · rename_i d μ' e
            rw [hw f _ _ _ _ e]
            exact fun v ρ' G' H' ex gh st ro => kk ρ' G' H' (s1.trans ex.gg) ex.pre (R1.after ex gh st) v (repX_after R1 ro)
          · exact kk.elim
      refine ⟨ps, tab, tell G H (fun _ _ h => h) R, fun a na => ?_⟩
      exact tell _ _ (same_upd (R.fresh_ na).1) (R.lam hP hm tab old na)
    · exact kk.elim
  · exact kk.elim
end
end Dv

/-! DwT: ranges as values, membership in them, a text times a number, the module's constants. -/
namespace Dv
open PySem PySem.Spec PyProof.Rows L2
/-! ### in a range, by search -/
theorem plain_rloop : plainId "range.__contains__.loop" = true := by decide +kernel
theorem entry_rloop : entryFor table "range.__contains__.loop" = some Builtin.«range.__contains__.loop» := entryFor_of_fast (by kernel_rfl)
def cnt1 (lo hi : Int) : Nat := (hi - lo).toNat
theorem size1 (lo hi : Int) : Builtin.Range.rangeSize lo hi 1 = cnt1 lo hi := by
  unfold Builtin.Range.rangeSize cnt1
  by_cases h : lo < hi
  · simp [h]; omega
  · simp [h]; omega
abbrev rngObj (lo hi : Int) (t u v : Tok) : Obj := { cls := .type "range", dict := none, data := .fields #[.int lo t, .int hi u, .int 1 v], slots := #[] }
/-- nothing in the range is x -/
abbrev rngMiss (x : Value) : Prop := ∀ A s n t, SeqAt.EqAt A s (.int n t) x false
theorem rloop (a : Addr) (lo hi : Int) (t1 t2 t3 : Tok) (x : Value) (k : Nat) : ∀ i : Nat, cnt1 lo hi - i = k → Meets (Builtin.«range.__contains__.loop» ⟨[.ref a, x, rawInt i], []⟩)
    (fun A R s => s.heap.get? a = some (rngObj lo hi t1 t2 t3) ∧ rngMiss x ∧ ∀ tk, R (.ok (.ret (.bool false))) { s with toks := tk }) := by
  induction k with
  | zero =>
    intro i hk prog w A R s h
    obtain ⟨hp, g, d, tk, os⟩ := s; obtain ⟨hl, he, h⟩ := h
    wp_walk
    refine wpAny_ite_true (decide_eq_true (by rw [size1]; omega)) ?_
    wp_walk
    exact h _
  | succ k ih =>
    intro i hk prog w A R s h
    obtain ⟨hp, g, d, tk, os⟩ := s; obtain ⟨hl, he, h⟩ := h
    wp_walk
    refine wpAny_ite_false (decide_eq_false (by rw [size1]; omega)) ?_
    have next : ∀ n t tk2, wpAny (model prog w) A.in1 (do
        let b ← eqBool (.int n t) x
        if b = true then PySem.ret (Value.bool true) else again (Code.builtin "range.__contains__.loop" { pos := [Value.ref a, x, rawInt (↑i + 1)] }))
        (fun fin s' => match fin with
          | Fin.done f => R (Except.ok f) s'
          | Fin.again c' => c'.quiet = true ∧ codeAny (model prog w) A c' R s') (fun e s' => R (Except.error e) s') { heap := hp, gens := g, drawn := d, toks := tk2, os := os } := fun n t tk2 => by
      refine wpAny_bind (he _ _ n t prog w _ _ ?_)
      refine wpAny_ite_false (by simp) ?_
      have hc : ((i : Int) + 1) = ((i + 1 : Nat) : Int) := by push_cast; rfl
      rw [hc]
      exact wpAny_pure ⟨plainId_quiet plain_rloop _, codeAny_builtin entry_rloop (by
        rw [Around.under_plainId plain_rloop _]
        exact ih (i + 1) (by omega) prog w A R _ ⟨hl, he, h⟩)⟩
    exact wpAny_bind (wpAny_mkInt (next _ _ _))
theorem rcont (a : Addr) (lo hi : Int) (t1 t2 t3 : Tok) (x : Value) (hx : Builtin.Range.rangeExactInt? x = none) : Meets (Builtin.«range.__contains__» ⟨[.ref a, x], []⟩)
    (fun A R s => s.heap.get? a = some (rngObj lo hi t1 t2 t3) ∧ rngMiss x ∧ ∀ tk, R (.ok (.ret (.bool false))) { s with toks := tk }) := by
  intro prog w A R s h
  obtain ⟨hp, g, d, tk, os⟩ := s; obtain ⟨hl, he, h⟩ := h
  wp_walk
  rw [hx]
  wp_walk
  exact ⟨plainId_quiet plain_rloop _, codeAny_builtin entry_rloop (by
        rw [Around.under_plainId plain_rloop _]
        exact rloop a lo hi t1 t2 t3 x _ 0 rfl prog w A R _ ⟨hl, he, h⟩)⟩
def missV : V → Bool
  | .non => true
  | .str _ => true
  | _ => false
def rInR (neg : Bool) : R2 := fun x y H Q => ∃ a lo hi, y = .ref a ∧ H a = some (.rng lo hi) ∧ ((∃ i, x = .int i ∧ Q (.bl (neg != decide (lo ≤ i ∧ i < hi))) H) ∨ (missV x = true ∧ Q (.bl neg) H))
section
variable {X : Cx} {B : Bs} {W : WX}
theorem contains_rng {pins : List (Addr × Obj)} {s : Shared} {σ : L2.St} {H : Hp} {x y : V} {v u : Value} {M : Bool → Shared → Prop} {E : Value → Shared → Prop} (I : Inv X pins σ H s) (rx : RelV x v) (ry : RelV y u)
    (h : ∃ a lo hi, y = .ref a ∧ H a = some (.rng lo hi) ∧ ((∃ i, x = .int i ∧ ∀ s', Inv X pins σ H s' → M (decide (lo ≤ i ∧ i < hi)) s') ∨ (missV x = true ∧ ∀ s', Inv X pins σ H s' → M false s'))) : wpAny (model X.prog X.w) X.A (contains u v) M E s := by
  obtain ⟨a, lo, hi, rfl, ha, h⟩ := h
  have eu : u = Value.ref a := ry
  subst eu
  obtain ⟨t1, t2, t3, ho⟩ := I.hok a _ ha
  rcases h with ⟨i, rfl, q⟩ | ⟨mv, q⟩
  · obtain ⟨k, rfl⟩ := rx
    have e := place1 lo hi i
    refine wpAny_contains_slot (T := "range") ⟨_, ho, rfl⟩ F.slot_range_contains (call_meets F.slot_range_contains ⟨_, ho, rfl⟩ F.entry_range_contains (F.args_range_contains_2 _ _) (q_contains a lo hi i t1 t2 t3 k) ⟨ho, wpAny_truthy_bool ?_⟩)
    rw [e]
    exact q _ I
  · have go : Builtin.Range.rangeExactInt? v = none → rngMiss v → wpAny (model X.prog X.w) X.A (contains (.ref a) v) M E s := fun hx hm =>
      wpAny_contains_slot (T := "range") ⟨_, ho, rfl⟩ F.slot_range_contains (call_meets F.slot_range_contains ⟨_, ho, rfl⟩ F.entry_range_contains (F.args_range_contains_2 _ _) (rcont a lo hi t1 t2 t3 v hx) ⟨ho, hm, fun tk => wpAny_truthy_bool (q _ (I.tok _))⟩)
    cases x with
    | non =>
      have ev : v = .none := rx
      subst ev
      exact go rfl fun A s n t => eqAt_V (y := .int n) (x := .non) ⟨t, rfl⟩ rfl rfl rfl
    | str z =>
      obtain ⟨k, rfl⟩ := rx
      exact go rfl fun A s n t => eqAt_V (y := .int n) (x := .str z) ⟨t, rfl⟩ ⟨k, rfl⟩ rfl rfl
    | _ => cases mv
theorem op_inR : OpR X (compareOp .In) (rInR false) := by
  intro pins s σ H x y v u Q I rx ry ⟨a, lo, hi, ey, ha, h⟩
  show wpAny _ _ (do return Value.bool (← contains u v)) _ _ s
  refine wpAny_bind (contains_rng I rx ry ⟨a, lo, hi, ey, ha, ?_⟩)
  rcases h with ⟨i, ex, q⟩ | ⟨m, q⟩
  · exact .inl ⟨i, ex, fun s' I' => wpAny_pure ⟨.bl _, H, I', rfl, by simpa using q⟩⟩
  · exact .inr ⟨m, fun s' I' => wpAny_pure ⟨.bl _, H, I', rfl, q⟩⟩
theorem op_notInR : OpR X (compareOp .NotIn) (rInR true) := by
  intro pins s σ H x y v u Q I rx ry ⟨a, lo, hi, ey, ha, h⟩
  show wpAny _ _ (do return Value.bool !(← contains u v)) _ _ s
  refine wpAny_bind (contains_rng I rx ry ⟨a, lo, hi, ey, ha, ?_⟩)
  rcases h with ⟨i, ex, q⟩ | ⟨m, q⟩
  · exact .inl ⟨i, ex, fun s' I' => wpAny_pure ⟨.bl _, H, I', rfl, by simpa using q⟩⟩
  · exact .inr ⟨m, fun s' I' => wpAny_pure ⟨.bl _, H, I', rfl, q⟩⟩
def fInR (neg : Bool) : F2
  | .int i, .rng lo hi, μ => ret (.bl (neg != decide (lo ≤ i ∧ i < hi))) μ
  | .non, .rng _ _, μ => ret (.bl neg) μ
  | .str _, .rng _ _, μ => ret (.bl neg) μ
  | _, _, _ => none
theorem rng_inv {T : Tx} {ρ : List Addr} {G : Hp} {σ : L2.St} {env : DEnv} {x : V} {lo hi : Int} (h : HeldR T ρ G σ env x (.rng lo hi)) : ∃ a, x = .ref a ∧ G a = some (.rng lo hi) := by
  have h : Rep T ρ G x (.rng lo hi) := h
  unfold Rep at h; exact h
theorem opd_inR (neg : Bool) : OpD (tx X) (rInR neg) (fInR neg) := by
  intro B W σ env ρ G H μ x y d d' Q R hx hy k
  unfold fInR at k
  split at k
  · obtain ⟨a, rfl, g⟩ := rng_inv hy
    exact ⟨a, _, _, rfl, R.gh _ _ g, .inl ⟨_, int_inv hx, k.here R (.ofR rep_bl)⟩⟩
  · obtain ⟨a, rfl, g⟩ := rng_inv hy
    have hx : Rep (tx X) ρ G x .non := hx
    unfold Rep at hx; subst hx
    exact ⟨a, _, _, rfl, R.gh _ _ g, .inr ⟨rfl, k.here R (.ofR rep_bl)⟩⟩
  · obtain ⟨a, rfl, g⟩ := rng_inv hy
    rw [str_inv hx]
    exact ⟨a, _, _, rfl, R.gh _ _ g, .inr ⟨rfl, k.here R (.ofR rep_bl)⟩⟩
  · exact k.elim
/-- range(a, b) as a value -/
def fRng2 : FA
  | [.int i, .int j], μ => ret (.rng i j) μ
  | _, _ => none
theorem ca_rng2 : CallD (tx X) (fun vs H Q => ∃ i j, vs = [V.int i, V.int j] ∧ ∀ p, H p = none → Q (.ref p) (upd H p (.rng i j))) fRng2 := by
  intro B W σ env ρ G H μ vs ds Q R h k
  unfold fRng2 at k
  split at k
  · obtain ⟨x, y, rfl, hx, hy⟩ := hreps2 h
    rw [int_inv hx, int_inv hy]
    refine ⟨_, _, rfl, fun p n => ?_⟩
    have gn := (R.fresh_ n).1
    exact k ρ _ _ (same_upd gn) (.refl _) (R.alloc n) _ (.ofR (by unfold Rep; exact ⟨p, rfl, upd_same⟩))
  · exact k.elim
theorem boot_range' : bootBuiltins "range" = some (.type "range") := by kernel_rfl
theorem rangeV_ {p pos : Pos} {e : Expr} {es : List Expr} {n : DEnv → Mu → Res (List D)} (hm : X.mg "range" = none) (ha : DA X B W (e :: es) n) (hg : Gl X "range" := by rfl) (he : starEach (e :: es) X.env = (false, eval e X.env) :: starEach es X.env := by rfl) (hpl : (backTo pos (starEach es X.env)).any (·.1) = false := by rfl) : DE X B W (.Call (.Name "range" p) (e :: es) [] pos) (dCall fRng2 n) := de_callTy cr_range2 ca_rng2 hg hm boot_range' ha (by decide) (by decide) he hpl
/-! ### a text times a number -/
theorem fold_size (a : Array Nat) : ∀ (n : Nat) (b : Array Nat), ((List.replicate n a).foldl (fun x y => x ++ y) b).size = b.size + n * a.size
  | 0, b => by simp
  | n + 1, b => by
    rw [List.replicate_succ, List.foldl_cons, fold_size a n, Array.size_append, Nat.succ_mul]; omega
def repS (x : Str) (n : Int) : Str := if n < 1 then Str.empty else if n = 1 ∨ x.length = 0 then x else ⟨(List.replicate n.toNat x.cps).foldl (· ++ ·) #[]⟩
abbrev rMulS : R2 := fun x y H Q => ∃ i j, x = .str i ∧ y = .int j ∧ i.length ≤ 1000 ∧ -1000 ≤ j ∧ j ≤ 1000 ∧ Q (.str (repS i j)) H
theorem op_mulS : OpR X (binaryOp .Mult) rMulS := by
  intro pins s σ H x y v u Q I rx ry h
  obtain ⟨i, j, rfl, rfl, hl, h0, h1, q⟩ := h
  obtain ⟨t, rfl⟩ := rx
  obtain ⟨k, rfl⟩ := ry
  have b1 : ¬ j < -(2 ^ 63 : Int) := by omega
  have b2 : ¬ j ≥ 2 ^ 63 := by omega
  refine P.mul_str (by rw [decide_eq_false b1, decide_eq_false b2]; rfl) (fun h2 _ => ?_) (fun h2 _ => ?_) ?_
  · have h3 : (1000 : Int) ≤ (2 ^ 63 - 1) / j := (Int.le_ediv_iff_mul_le (by omega)).mpr (by omega)
    omega
  · unfold Builtin.Str.tooLong
    have : i.length * j.toNat ≤ 1000 * 1000 := Nat.mul_le_mul hl (by omega)
    have hs : sizeLine = 16777216 := sizeLine_eq
    simp
    omega
  · unfold repS at q
    split
    · rename_i h2
      rw [if_pos h2] at q
      exact ⟨by decide, .str Str.empty, H, I.tok _, ⟨_, rfl⟩, q⟩
    · rename_i h2
      rw [if_neg h2] at q
      split
      · rename_i h3
        have h3 : j = 1 ∨ i.length = 0 := by simpa using h3
        rw [if_pos h3] at q
        exact ⟨.str i, H, I, ⟨t, rfl⟩, q⟩
      · rename_i h3
        have h3 : ¬ (j = 1 ∨ i.length = 0) := by simpa using h3
        rw [if_neg h3] at q
        exact ⟨by rw [sizeLine_eq]; show (_ : Array Nat).size ≤ _; rw [fold_size]; have : j.toNat * i.cps.size ≤ 1000 * 1000 := Nat.mul_le_mul (by omega) hl; simp; omega, .str _, H, I.tok _, ⟨_, rfl⟩, q⟩
def fMulS : F2
  | .str z, .int n, μ => if z.length ≤ 1000 ∧ -1000 ≤ n ∧ n ≤ 1000 then ret (.str (repS z n)) μ else none
  | _, _, _ => none
theorem opd_mulS : OpD (tx X) rMulS fMulS := by
  intro B W σ env ρ G H μ x y d d' Q R hx hy k
  unfold fMulS at k
  split at k
  · split at k
    · rename_i h
      rw [str_inv hx, int_inv hy]
      exact ⟨_, _, rfl, rfl, h.1, h.2.1, h.2.2, k.here R (.ofR rep_str)⟩
    · exact k.elim
  · exact k.elim
end
/-! ### the module's constants -/
section
variable {X : Cx} {B : Bs} {W : WX} {x : Str} {p : Pos}
/-- a number of the module -/
theorem g_int {i : Int} (h : ∃ t, X.mg x = some (.int i t)) (hg : Gl X x := by rfl) (hd : (x == ("__debug__" : Str)) = false := by decide) : DE X B W (.Name x p) (dC (.int i)) := by
  obtain ⟨t, hm⟩ := h
  exact de_c (pe_glob (v := .int i) hg hm ⟨t, rfl⟩ hd) fun _ _ => rep_int
/-- a tuple of numbers of the module -/
structure GTup (K : PySem.W.Frag) (mg : Str → Option Value) (x : Str) (l : List Int) : Prop where
  ex : ∃ a, mg x = some (.ref a) ∧ ∀ G, SqG K G a (l.map V.int)
theorem g_tup {l : List Int} (h : GTup X.K X.mg x l) (hz : szl l.length := by decide) (hg : Gl X x := by rfl) (hd : (x == ("__debug__" : Str)) = false := by decide) : DE X B W (.Name x p) (dC (.tup (l.map D.int))) := by
  obtain ⟨a, hm, hq⟩ := h.ex
  exact de_c (pe_glob (v := .ref a) hg hm rfl hd) fun ρ G => rep_tup (hq G) (by rw [List.length_map]; exact hz) (reps_ints l)
end
/-! ### a flat value in a tuple or list of flat ones -/
def vOf : D → Option V
  | .non => some .non
  | .bl b => some (.bl b)
  | .int i => some (.int i)
  | .str z => some (.str z)
  | _ => none
def vsOf : List D → Option (List V)
  | [] => some []
  | d :: ds => (match vOf d, vsOf ds with
    | some v, some l => some (v :: l)
    | _, _ => none)
theorem vOf_inv {T : Tx} {ρ : List Addr} {G : Hp} {v x : V} {d : D} (e : vOf d = some x) (r : Rep T ρ G v d) : v = x ∧ flatV x = true := by
  cases d <;> first | (cases e; unfold Rep at r; exact ⟨r, rfl⟩) | cases e
theorem vsOf_inv {T : Tx} {ρ : List Addr} {G : Hp} : ∀ {l : List D} {xs vs : List V}, vsOf l = some xs → Reps T ρ G vs l → vs = xs ∧ xs.all flatV = true
  | [], xs, vs, e, r => by unfold vsOf at e; cases e; exact ⟨r.inv0, rfl⟩
  | d :: ds, xs, vs, e, r => by
    unfold vsOf at e
    split at e
    · rename_i v l h1 h2
      cases e
      obtain ⟨u, t, rfl, q, rs⟩ := r.inv
      obtain ⟨rfl, f1⟩ := vOf_inv h1 q
      obtain ⟨rfl, f2⟩ := vsOf_inv h2 rs
      exact ⟨rfl, by rw [List.all_cons, f1, f2]; rfl⟩
    · cases e
def seqF : D → Option (List D)
  | .tup l => some l
  | .lst l => some l
  | .bor l => some l
  | _ => none
def fInF (neg : Bool) : F2 := fun a b μ => match vOf a, (seqF b).bind vsOf with
  | some x, some xs => ret (.bl (neg != inV x xs)) μ
  | _, _ => none
theorem opd_inF {X : Cx} (neg : Bool) : OpD (tx X) (rIn X.K neg) (fInF neg) := by
  intro B W σ env ρ G H μ x y d d' Q R hx hy k
  unfold fInF at k
  split at k
  · rename_i v xs h1 h2
    have ex : x = v ∧ flatV v = true := by
      cases d with
      | bor l => cases h1
      | _ => exact vOf_inv (T := tx X) (ρ := ρ) (G := G) h1 hx
    obtain ⟨rfl, f1⟩ := ex
    have fin : ∀ {a : Addr} {vs : List V} {l : List D}, vsOf l = some xs → Reps (tx X) ρ G vs l → (SqL X.K H a vs ∨ SqT X.K H a vs) → rIn X.K neg x (.ref a) H Q := fun {a vs l} e r q => by
      obtain ⟨rfl, f2⟩ := vsOf_inv e r
      refine ⟨a, _, rfl, q, f1, f2, ?_⟩
      cases neg with
      | true => simp only [Bool.true_bne] at k; exact k.here R (.ofR rep_bl)
      | false => simp only [Bool.false_bne] at k; exact k.here R (.ofR rep_bl)
    cases d' with
    | tup l => obtain ⟨a, vs, rfl, q, z, r⟩ := tup_inv hy; exact fin h2 r (.inr (sqG_mono R.gh q).sq)
    | lst l => obtain ⟨a, vs, rfl, q, z, r⟩ := seqL_inv (d := .lst l) R hy rfl; exact fin h2 r (.inl (.of q))
    | bor l => obtain ⟨a, vs, rfl, q, z, r⟩ := seqL_inv (d := .bor l) R hy rfl; exact fin h2 r (.inl (.of q))
    | _ => cases h2
  · exact k.elim
end Dv

/-! DwU: the head with closures, free checks and tables; makers of lambdas; the law's end. -/
namespace Dv
open PySem PySem.Spec PyProof.Rows L2
theorem gTup_of {K : PySem.W.Frag} {mg : Str → Option Value} {x : Str} {l : List Int} (hm : mg x = some (.ref (He.ga K x))) (h : He.tupB K x (l.map He.Dv.int) = true) : GTup K mg x l := by
  refine ⟨_, hm, fun G => ?_⟩
  have q := He.tupB_ok h (fun _ => none)
  have e : (l.map He.Dv.int).map (He.Dv.v K) = l.map V.int := by rw [List.map_map]; rfl
  rw [e] at q
  rcases q with (q | ⟨o, q⟩) | q
  · cases q
  · cases q
  · exact .inr q
/-! ### the Hook -/
abbrev AlY : Type := AlB × Bool
structure SaysY (file : Str) (fa : List He.Fa) (fn : List He.DefD) (fc : List ClD) (bs : List (PySem.W.Frag → Bool)) (tf : List He.Defn) (h : Heap) (K : PySem.W.Frag) : Prop where
  b : SaysB file fa fn fc bs K
  hd : ∀ p ∈ tf, PySem.W.codeHdIn K (He.cT K p).1 (He.cT K p).2 = true
  out : ∀ p ∈ tf, K.lookup (He.cT K p).2 = none
  empty : ∀ p ∈ tf, h.get? (He.cT K p).2 = some { cls := .none, data := .fields #[] }
def frY (n : Nat) (g : Addr → Option Obj) : PySem.W.Frag := He.frT g (He.asD g n ++ [cStatics])
def obsY (file : Str) (n : Nat) (fa : List He.Fa) (fn : List He.DefD) (fc : List ClD) (bs : List (PySem.W.Frag → Bool)) (tf : List He.Defn) (g : Addr → Option Obj) : AlY := (obsB file fa fn fc bs (frY n g), He.tabsB g tf (frY n g))
def valY (fn : List He.DefD) (fc : List ClD) : AlY := (valB fn fc, true)
section
variable {file : Str} {n : Nat} {fa : List He.Fa} {fn : List He.DefD} {fc : List ClD} {bs : List (PySem.W.Frag → Bool)} {tf : List He.Defn}
theorem saysY_of {h : Heap} (e : obsY file n fa fn fc bs tf h.get? = valY fn fc) : SaysY file fa fn fc bs tf h (frY n h.get?) := by
  have e1 : obsB file fa fn fc bs (frY n h.get?) = valB fn fc := congrArg Prod.fst e
  have e2 : He.tabsB h.get? tf (frY n h.get?) = true := congrArg Prod.snd e
  have each : ∀ p ∈ tf, PySem.W.codeHdIn (frY n h.get?) (He.cT (frY n h.get?) p).1 (He.cT (frY n h.get?) p).2 = true ∧ ∃ o, h.get? (He.cT (frY n h.get?) p).2 = some o ∧ He.emptyTab o = true := fun p hp => by
    have q := List.all_eq_true.mp e2 p hp
    rw [Bool.and_eq_true] at q
    refine ⟨q.1, ?_⟩
    have q2 := q.2
    split at q2
    · rename_i o ho; exact ⟨o, ho, q2⟩
    · cases q2
  exact ⟨⟨e1⟩, fun p hp => (each p hp).1, fun p hp => (let ⟨_, o, q, z⟩ := each p hp; He.frT_none q z), fun p hp => (let ⟨_, o, q, z⟩ := each p hp; by rw [q, He.emptyTab_eq z])⟩
def hookY (file : Str) (n : Nat) (fa : List He.Fa) (fn : List He.DefD) (fc : List ClD) (bs : List (PySem.W.Frag → Bool)) (tf : List He.Defn) : PySem.W.Hook where
  α := AlY
  obs := fun t => obsY file n fa fn fc bs tf t.heap.get?
  val := fun _ => valY fn fc
  says := fun _ h => ∃ K : PySem.W.Frag, K.In h ∧ SaysY file fa fn fc bs tf h K
  of := fun _ _ q => ⟨_, He.frT_in, saysY_of q⟩
  keeps := fun _ _ _ ⟨K, hK, c⟩ k => ⟨K, hK.keeps k, ⟨c.b, c.hd, c.out, fun p hp => k _ _ (c.empty p hp)⟩⟩
theorem obsY_eq {g : Addr → Option Obj} {t : Shared} (h : ∀ a, g a = t.heap.get? a) : obsY file n fa fn fc bs tf g = (hookY file n fa fn fc bs tf).obs t := by
  cases (funext h : g = t.heap.get?); rfl
end
/-! ### makers of lambdas -/
section
variable {P : Program} {w : World} {K : PySem.W.Frag} {mg : Str → Option Value} {base : Heap} {x qual : Str} {params : Arguments} {body : List Stmt} {scope : Scope} {fd : FuncData} {pl : Str × Option Str}
theorem def_okC {N ps : List Str} {k : Nat} {m : DSt} (F : FunD K x qual params body scope [] [] (He.fAd K pl) fd) (S : FnScope N ps scope)
    (hbody : ∀ (A : Around) (outer : List Env) (s : Shared) (H : Hp) (E : XK) (B : Bs), Room k (A.deeper (envOfC qual scope s.heap.objs.size (He.fAd K pl) (.ref (He.codeOf K pl)))) → DSs (cxOf (L2.CX P w) P w K mg base N qual scope (He.fAd K pl) (.ref (He.codeOf K pl)) A outer s H E) B (fun cls d _ H => E cls d H) body m) :
    FnOk P w K mg base (L2.CX P w) (k + 1) (He.fAd K pl) fd ps (spD ⟨K, mg⟩ ps.length (cleanD (defD N.length m))) := by
  obtain ⟨oc, od, dV, kV, doc, pm, an, cdv, ct, osl, rfl, lk, hcd, _, _⟩ := F.ex
  obtain ⟨c, rfl⟩ := He.codeIn_ref hcd
  have ec : He.codeOf K pl = c := He.codeOf_eq lk rfl
  subst ec
  refine fn_of lk hcd S (fun vs H Q E h => h.1) fun A outer s H vs Q E hr h => ?_
  obtain ⟨hl, ρ, G, ds, μ, gh, st, rs, told⟩ := h
  refine ⟨_, (hbody A outer s H E ⟨H, G, ρ, []⟩ hr).run, ρ, G, envD N.length ds, μ, start_rd gh st rs, ?_⟩
  unfold cleanD defD at told
  cases e : m (envD N.length ds) μ with
  | none => rw [e] at told; exact told.elim
  | some z =>
    obtain ⟨o, env', μ'⟩ := z
    rw [e] at told
    match o, told with
    | .exc y, told => exact fun σ' ρ' G' H' cls dd s p R er => told cls dd ρ' G' H' R.ext R.gh R.st er
    | .val .nx, told => exact fun σ' ρ' G' H' s p R => told .non ρ' G' H' R.ext R.gh R.st (show Rep _ _ _ _ _ from rep_non)
    | .val .brk, told => exact told.elim
    | .val .ct, told => exact told.elim
    | .val (.ret d), told =>
      have told : KC ⟨K, mg⟩ ρ G H Q E (if nobor d then some (.val d, μ') else none) := told
      split at told
      · rename_i clean
        exact fun σ' env2 ρ' G' H' v s p R hv => told v ρ' G' H' R.ext R.gh R.st (repO_of hv clean)
      · exact told.elim
end
/-! ### the lambda's body's context -/
theorem takes_lam {X : Cx} {A : Around} {outer : List Env} {s : Shared} {H : Hp} {E : XK} {scope : Scope} {f c' : Addr} : Takes (LamX.lamCx X A outer s H E scope f c') (fun cls d _ H => E cls d H) := takes_of rfl rfl rfl rfl
/-- the asker by its name -/
theorem oneArg_of {K : PySem.W.Frag} {x a : Str} {pg : Arguments} {bg : List Stmt} {sg : Scope} {Ng : List Str} {fd : FuncData} {g : Addr} (F : FunD K x x pg bg sg [] [] g fd) (hb : Binds K fd [a] []) (sc : FnScope Ng [a] sg) (zero : Ng[0]? = some a) (vis : Vis sg a) (d1 : (a == ("__debug__" : Str)) = false) (d2 : (a == ("__classdict__" : Str)) = false) :
    ∃ cdg, ∀ X : Cx, X.K = K → OneArg X x a g cdg bg sg Ng := by
  obtain ⟨oc, od, dV, kV, doc, pm, an, cdv, ct, osl, rfl, lk, hcd, _, _⟩ := F.ex
  refine ⟨cdv, fun X e => ?_⟩
  subst e
  exact ⟨⟨pg, dV, kV, doc, pm, ct, oc, an, od, osl, lk, hb⟩, hcd, F.kp, sc, zero, vis, d1, d2⟩
end Dv

/-! DwV: drawing, wherever the drawer stands in the store. (Printed from DvQ's text.) -/
namespace Dv
open PySem PySem.Spec PyProof.Rows L2
theorem draw_okJ (j : Nat) (μ : Mu) (hj : j < μ.length) (s : Src) (n : Int) (hs : OkS s) (h0 : 0 < n) (h1 : n < 1073741824) : ∃ r s', mDraw [.obj j, .int n] (μ.set j (.src s)) = some (.val (.int r), (μ.set j (.src s'))) ∧ 0 ≤ r ∧ r < n ∧ OkS s' := by
  have gj : ∀ x, (μ.set j x)[j]? = some x := fun x => List.getElem?_set_self hj
  have sj : ∀ x y, (μ.set j x).set j y = μ.set j y := fun x y => List.set_set ..
  have hz : szl s.cells.length := Nat.le_trans hs.sz (by decide)
  suffices h : ∃ r s' env, bDraw [.v (.obj j), .v (.int n), .no, .no, .no] (μ.set j (.src s)) = some (.val (.ret (.int r)), env, (μ.set j (.src s'))) ∧ 0 ≤ r ∧ r < n ∧ OkS s' by
    obtain ⟨r, s', env, e, a, b, c⟩ := h
    exact ⟨r, s', def_ret e rfl, a, b, c⟩
  unfold bDraw
  have hT : (dAndT (dTest (dBin fEq (dBin fIxS (dVar 0) (dC (.int 2))) (dC (.int 0)))) (dTest (dBin (fCmp fun i j => decide (i < j)) (dBin fIxS (dVar 0) (dC (.int 1))) (dCall fLen (dCons (dBin fIxS (dVar 0) (dC (.int 0))) dNil))))) [.v (.obj j), .v (.int n), .no, .no, .no] (μ.set j (.src s)) = some (.val (decide (s.big = 0) && decide (s.at_ < s.cells.length)), (μ.set j (.src s))) := by
    by_cases hb : s.big = 0
    all_goals simp only [dAndT, dTest, fTest, dBin, dC, dVar, bindR, Dv.ret, hold, fIxS, dCall, dCons, dNil, fLen, fCmp, feq_int, gj, sj, List.getElem?_cons_zero, sg1, sg2, sg0 s hz, hb, decide_true, decide_false, Bool.true_and, Bool.false_and, if_true, List.length_map, Bool.false_eq_true, if_false]
  have h2 : ∃ x s1, OkS s1 ∧ (dIfS (dAndT (dTest (dBin fEq (dBin fIxS (dVar 0) (dC (.int 2))) (dC (.int 0)))) (dTest (dBin (fCmp fun i j => decide (i < j)) (dBin fIxS (dVar 0) (dC (.int 1))) (dCall fLen (dCons (dBin fIxS (dVar 0) (dC (.int 0))) dNil))))) (dSeq (dAsg (dBin fIxS (dBin fIxS (dVar 0) (dC (.int 0))) (dBin fIxS (dVar 0) (dC (.int 1)))) (tName 2))
    (dSeq (dSetS (dBin fAdd (dBin fIxS (dVar 0) (dC (.int 1))) (dC (.int 1))) (dVar 0) (dC (.int 1)))
    (dIfS (dTest (dBin (fCmp fun i j => decide (j ≤ i)) (dVar 2) (dBin fPow (dC (.int 10)) (dC (.int 18))))) (dSetS (dVar 2) (dVar 0) (dC (.int 2))) (dSetS (dBin fMod (dCall fInt (dCons (dBin fAdd (dBin fAdd (dBin fMul (dBin fIxS (dVar 0) (dC (.int 3))) (dC (.int 45053))) (dBin fMul (dBin fMod (dCall fInt (dCons (dVar 2) dNil)) (dC (.int 2147483563))) (dC (.int 50033)))) (dC (.int 67))) dNil)) (dC (.int 2147483587))) (dVar 0) (dC (.int 3)))))) dSkip) [.v (.obj j), .v (.int n), .no, .no, .no] (μ.set j (.src s)) = some (.val .nx, [.v (.obj j), .v (.int n), x, .no, .no], (μ.set j (.src s1))) := by
    by_cases hc : (decide (s.big = 0) && decide (s.at_ < s.cells.length)) = true
    · have hc' : s.big = 0 ∧ s.at_ < s.cells.length := by simpa using hc
      obtain ⟨c, e1, e2⟩ := ix_intsD s.cells s.at_ hs.a0 hc'.2
      by_cases hg : 1000000000000000000 ≤ c
      · refine ⟨.v (.int c), { s with at_ := s.at_ + 1, big := c }, ⟨hs.sz, by have := hs.a0; show 0 ≤ s.at_ + 1; omega, hs.s0, hs.s1⟩, ?_⟩
        refine ifs_t (μ' := (μ.set j (.src s))) (by rw [hT, hc]) ?_
        simp only [dSeq, dIfS, bindS, dSetS, fSetS, dAsg, tName, nobor, fIx, dTest, fTest, dBin, dC, dVar, bindR, Dv.ret, hold, fIxS, dCall, dCons, dNil, fLen, fCmp, fAdd, fpow_1018, gj, sj, List.getElem?_cons_zero, List.getElem?_cons_succ, List.set_cons_zero, List.set_cons_succ, sg1, sg2, sg3, sg4, ss1, ss2, ss3, ss4, sg0 s hz, e1, hg, decide_true, if_true]
      · refine ⟨.v (.int c), { s with at_ := s.at_ + 1, seed := (s.seed * 45053 + c % 2147483563 * 50033 + 67) % 2147483587 }, ⟨hs.sz, by have := hs.a0; show 0 ≤ s.at_ + 1; omega, by show 0 ≤ _ % 2147483587; omega, by show _ % 2147483587 < _; omega⟩, ?_⟩
        refine ifs_t (μ' := (μ.set j (.src s))) (by rw [hT, hc]) ?_
        simp only [dSeq, dIfS, bindS, dSetS, fSetS, dAsg, tName, nobor, fIx, dTest, fTest, dBin, dC, dVar, bindR, Dv.ret, hold, fIxS, dCall, dCons, dNil, fLen, fInt, fCmp, fAdd, fpow_1018, gj, sj, List.getElem?_cons_zero, List.getElem?_cons_succ, List.set_cons_zero, List.set_cons_succ, sg1, sg2, sg3, sg4, ss1, ss2, ss3, ss4, sg0 s hz, e1, hg, decide_true, decide_false, if_true, if_false, Bool.false_eq_true, fmul_int _ 45053 _ (by decide), fmul_int _ 50033 _ (by decide), fmod_int _ 2147483587 _ (by decide), fmod_int _ 2147483563 _ (by decide)]
    · refine ⟨.no, s, hs, ?_⟩
      refine ifs_f (μ' := (μ.set j (.src s))) (by rw [hT, Bool.eq_false_iff.mpr hc]) rfl
  obtain ⟨x, s1, hs1, e1⟩ := h2
  by_cases hb : 0 < s1.big
  · refine ⟨s1.big % n, { s1 with big := s1.big / n }, [.v (.obj j), .v (.int n), x, .v (.int (s1.big % n)), .no], ?_, Int.emod_nonneg _ (by omega), Int.emod_lt_of_pos _ h0, ⟨hs1.sz, hs1.a0, hs1.s0, hs1.s1⟩⟩
    refine seq_nx e1 (seq_ret (d := .int (s1.big % n)) (ifs_t (μ' := (μ.set j (.src s1))) ?_ ?_))
    · simp only [dTest, fTest, dBin, dC, dVar, bindR, Dv.ret, hold, fIxS, fCmp, gj, sj, List.getElem?_cons_zero, List.getElem?_cons_succ, sg2, hb, decide_true]
    · simp only [dSeq, dRet, unbor, bindS, dSetS, fSetS, dAsg, tName, nobor, dBin, dC, dVar, bindR, Dv.ret, hold, fIxS, dCall, dCons, dNil, fInt, gj, sj, List.getElem?_cons_zero, List.getElem?_cons_succ, List.set_cons_zero, List.set_cons_succ, sg2, ss2, if_true, fmod_int _ n _ h0, fdiv_int _ n _ h0 h1]
  · refine ⟨((s1.seed * s1.seed + s1.seed * 33023 + (s1.cnt + 1) * 1299709 + 85571) % 2147483587 / 71 + (s1.seed * s1.seed + s1.seed * 33023 + (s1.cnt + 1) * 1299709 + 85571) % 2147483587 % 7907 * 59) % n, { s1 with cnt := s1.cnt + 1, seed := (s1.seed * s1.seed + s1.seed * 33023 + (s1.cnt + 1) * 1299709 + 85571) % 2147483587 }, [.v (.obj j), .v (.int n), x, .no, .v (.int s1.seed)], ?_, ?_, ?_, ⟨hs1.sz, hs1.a0, ?_, ?_⟩⟩
    refine seq_nx e1 (seq_nx (ifs_f (μ' := (μ.set j (.src s1))) (r := some (.val .nx, [.v (.obj j), .v (.int n), x, .no, .no], (μ.set j (.src s1)))) ?_ rfl) ?_)
    · simp only [dTest, fTest, dBin, dC, dVar, bindR, Dv.ret, hold, fIxS, fCmp, gj, sj, List.getElem?_cons_zero, List.getElem?_cons_succ, sg2, hb, decide_false]
    · have q := hs1.s0
      have q2 := hs1.s1
      simp only [dSeq, dRet, unbor, bindS, dSetS, fSetS, dAsg, tName, nobor, dBin, dC, dVar, bindR, Dv.ret, hold, fIxS, dCall, dCons, dNil, fInt, fAdd, gj, sj, List.getElem?_cons_zero, List.getElem?_cons_succ, List.set_cons_zero, List.set_cons_succ, sg3, sg4, ss3, ss4, if_true, fmul_int _ s1.seed _ (by omega), fmul_int _ 33023 _ (by decide), fmul_int _ 1299709 _ (by decide), fmul_int _ 59 _ (by decide), fmod_int _ 2147483587 _ (by decide), fmod_int _ 7907 _ (by decide), fdiv_int _ 71 _ (by decide) (by decide), fmod_int _ n _ h0]
    · exact Int.emod_nonneg _ (by omega)
    · exact Int.emod_lt_of_pos _ h0
    · exact Int.emod_nonneg _ (by decide)
    · exact Int.emod_lt_of_pos _ (by decide)

theorem of_okJ (j : Nat) (μ : Mu) (hj : j < μ.length) (s : Src) (l : List D) (hs : OkS s) (hl : 0 < l.length) (hz : l.length ≤ 1000) (hn : ∀ d ∈ l, nobor d = true) (hn2 : ∀ d ∈ l, unbor d = d) : ∃ d s', d ∈ l ∧ mOf [.obj j, .lst l] (μ.set j (.src s)) = some (.val d, (μ.set j (.src s'))) ∧ OkS s' := by
  obtain ⟨r, s', e, r0, r1, ho⟩ := draw_okJ j μ hj s l.length hs (by omega) (by omega)
  have hr : r.toNat < l.length := by omega
  refine ⟨l[r.toNat], s', List.getElem_mem hr, ?_, ho⟩
  refine def_ret (env := [.v (.obj j), .v (.lst l)]) ?_ (hn _ (List.getElem_mem hr))
  show bOf [.v (.obj j), .v (.lst l)] (μ.set j (.src s)) = _
  have e2 : atI l r = some l[r.toNat] := by rw [atI_of r0 r1]; simp [hr]
  simp only [bOf, dRet, bindS, dBin, dVar, dCall, dCons, dNil, fLen, bindR, Dv.ret, hold, List.getElem?_cons_zero, List.getElem?_cons_succ, fCall, List.length_cons, List.length_nil, List.all_cons, List.all_nil, nobor, Bool.and_self, and_self, if_true, e, fIxS, fIx, e2, hn2 _ (List.getElem_mem hr), Nat.zero_add, Nat.reduceAdd]
end Dv

/-! DwW: the laws' two helpers of errors: the fields of an error, why a call ends. -/
namespace Dv
open PySem PySem.Spec PyProof.Rows L2
/-! ### room within a suite -/
theorem unitsF {k : Nat} {A : Around} (h : RoomF k A) : A.units + 64 < cLine := by have := h.many; omega
theorem unitsF5 {k : Nat} {A : Around} (h : RoomF k A) : A.units + 65 < cLine := by have := h.many; omega
theorem Room.suite {k : Nat} {A : Around} {v : Option Value} (r : Room (k + 1) A) (env : Env) : RoomF k ((A.deeper env).mark v) := by
  have h := (RoomF.of r).inner env
  exact ⟨h.deep, h.many⟩
/-! ### which classes have which field -/
/-- l: the classes that may be met, each with its field -/
def fcs (l : List (Str × Option Str)) (f : Str) : List Str := if f = "code" then l.map (·.1) else (l.filter fun z => decide (z.2 = some f)).map (·.1)
structure ErrFs (K : PySem.W.Frag) (mg : Str → Option Value) (fc : Str → List Str) : Prop where
  code : ErrF K mg (fc "code") "code"
  given : ErrF K mg (fc "given") "given"
  at_ : ErrF K mg (fc "at") "at"
  name : ErrF K mg (fc "name") "name"
  most : ErrF K mg (fc "most") "most"
  cost : ErrF K mg (fc "cost") "cost"
  line : ErrF K mg (fc "line") "line"
/-! ### _law_field -/
def sTup (l : List Str) : DEx := dTup (l.foldr (fun s n => dCons (dC (.str s)) n) dNil)
def bField (fc : Str → List Str) : DSt :=
  (dSeq (dIfS (dTest (dBin (fInS false) (dAttr (fc "code") "code" (dVar 0)) (dTup (dCons (dC (.str "InvalidPrime")) (dCons (dC (.str "InvalidLength")) (dCons (dC (.str "InvalidNumber")) (dCons (dC (.str "InvalidSchedule")) (dCons (dC (.str "InvalidCall")) (dCons (dC (.str "NotCallable")) (dCons (dC (.str "InvalidFate")) (dCons (dC (.str "InvalidKey")) dNil))))))))))) (dRet (dTup (dCons (dAttr (fc "given") "given" (dVar 0)) dNil))) dSkip)
  (dSeq (dIfS (dTest (dBin (fInS false) (dAttr (fc "code") "code" (dVar 0)) (dTup (dCons (dC (.str "InvalidRow")) (dCons (dC (.str "NoChain")) (dCons (dC (.str "NoRing")) dNil)))))) (dRet (dTup (dCons (dAttr (fc "at") "at" (dVar 0)) dNil))) dSkip)
  (dSeq (dIfS (dTest (dBin (fInS false) (dAttr (fc "code") "code" (dVar 0)) (dTup (dCons (dC (.str "InvalidName")) (dCons (dC (.str "DuplicateName")) (dCons (dC (.str "Unservable")) (dCons (dC (.str "Overlost")) (dCons (dC (.str "UnknownReceiver")) dNil)))))))) (dRet (dTup (dCons (dAttr (fc "name") "name" (dVar 0)) dNil))) dSkip)
  (dSeq (dIfS (dTest (dBin (fInS false) (dAttr (fc "code") "code" (dVar 0)) (dTup (dCons (dC (.str "TooMany")) (dCons (dC (.str "Beyond")) dNil))))) (dRet (dTup (dCons (dAttr (fc "most") "most" (dVar 0)) dNil))) dSkip)
  (dSeq (dIfS (dTest (dBin fEq (dAttr (fc "code") "code" (dVar 0)) (dC (.str "NotBarred")))) (dRet (dTup (dCons (dAttr (fc "cost") "cost" (dVar 0)) dNil))) dSkip)
  (dRet (dIf (dTest (dBin fEq (dAttr (fc "code") "code" (dVar 0)) (dC (.str "InvalidText")))) (dTup (dCons (dAttr (fc "line") "line" (dVar 0)) dNil)) (dTup dNil))))))))
def mField (fc : Str → List Str) : Fn := cleanD (defD 1 (bField fc))
/-! ### _law_why -/
def bWhy (fc : Str → List Str) (A : DEx) : DSt :=
  dTry (fc "code") 1 (dRet (dTup (dCons (dC (.str "told")) (dCons A dNil)))) (dRet (dBin fAdd (dTup (dCons (dAttr (fc "code") "code" (dVar 1)) dNil)) (dCall (fCall 1 (valOnly (mField fc))) (dCons (dVar 1) dNil))))
def mWhy (fc : Str → List Str) (ask : Mu → Res D) : Mu → Res D := fun μ => cleanD (defD 2 (bWhy fc (fun _ μ => ask μ))) [.non] μ
theorem why_eq (fc : Str → List Str) (f : Addr) (ask : Mu → Res D) (μ : Mu) : cleanD (defD 2 (bWhy fc (dAsk f ask))) [.fn f] μ = mWhy fc ask μ := by
  unfold mWhy
  have a1 : dAsk f ask (envD 2 [.fn f]) μ = ask μ := if_pos rfl
  have inner : ∀ (A A' : DEx) (e e' : DEnv), A e μ = A' e' μ → dTup (dCons (dC (.str "told")) (dCons A dNil)) e μ = dTup (dCons (dC (.str "told")) (dCons A' dNil)) e' μ := fun A A' e e' h => by
    unfold dTup dCons dC dNil
    simp only [bindR, Dv.ret, h]
  have e := inner (dAsk f ask) (fun _ μ => ask μ) (envD 2 [.fn f]) (envD 2 [.non]) a1
  unfold cleanD defD bWhy dTry dRet
  simp only [bindS, e]
  cases dTup (dCons (dC (.str "told")) (dCons (fun _ μ => ask μ) dNil)) (envD 2 [.non]) μ with
  | none => rfl
  | some z =>
    obtain ⟨o, μ'⟩ := z
    cases o with
    | val d => rfl
    | exc x =>
      simp only []
      by_cases hx : x.cls ∈ fc "code"
      · simp only [hx, if_true]
        have key : ∀ (d0 : D), dBin fAdd (dTup (dCons (dAttr (fc "code") "code" (dVar 1)) dNil)) (dCall (fCall 1 (valOnly (mField fc))) (dCons (dVar 1) dNil)) ((envD 2 [d0]).set 1 (.v (.exn x.cls x.fs))) μ' =
            dBin fAdd (dTup (dCons (dAttr (fc "code") "code" (dC (.exn x.cls x.fs))) dNil)) (dCall (fCall 1 (valOnly (mField fc))) (dCons (dC (.exn x.cls x.fs)) dNil)) [] μ' := fun d0 => rfl
        rw [key, key]
        cases dBin fAdd (dTup (dCons (dAttr (fc "code") "code" (dC (.exn x.cls x.fs))) dNil)) (dCall (fCall 1 (valOnly (mField fc))) (dCons (dC (.exn x.cls x.fs)) dNil)) [] μ' with
        | none => rfl
        | some z2 =>
          obtain ⟨o2, μ2⟩ := z2
          cases o2 <;> rfl
      · simp only [hx, if_false]
theorem why_ok (fc : Str → List Str) : ∀ f ask μ d μ', mWhy fc ask μ = some (.val d, μ') → cleanD (defD 2 (bWhy fc (dAsk f ask))) [.fn f] μ = some (.val d, μ') := fun f ask μ d μ' h => by rw [why_eq]; exact h
end Dv

/-! DwX: own errors by the text of the program: short forms for printed texts. -/
namespace Dv
open PySem PySem.Spec PyProof.Rows L2
def clsBody : Stmt → List Stmt
  | .ClassDef _ _ _ b _ _ _ _ _ _ _ => b
  | _ => []
theorem SupD.binds {P : Program} {K : PySem.W.Frag} {x qual : Str} {params : Arguments} {body : List Stmt} {scope : Scope} {f : Addr} {fd : FuncData} {D : Addr} {ps : List Str} (F : SupD P K x qual params body scope f fd D)
    (h : ∀ (kV doc pm : Value) (an : Option Addr) (cd ct : Value) (cc : Addr) (us : List Value), us.length = ps.length → bindArgs (PySem.W.ksFn x qual params body scope .none kV doc pm an cd ct cc) ⟨us, []⟩ = pure (ps.zip us)) : Binds K fd ps [] := by
  obtain ⟨oc, od, kV, doc, pm, an, cda, ct, osl, cc, cl, cld, csl, ccl, cdd, vs, ccs, file, tf, rfl, _⟩ := F.ex
  exact .all (h kV doc pm an _ ct cc)
/-- all checks of a one-field error of this name, in this order: SupC, init, no class attribute "code", nor the field, reading -/
def errBs (b : EBase) (c f : Str) : List (PySem.W.Frag → Bool) := [fun K => supB b K (He.ga K c) (He.ga K c), iniB c, noB c "code", noB c f, fun K => L2.xfB K (He.ga K c)]
theorem SaysB.chkM {file : Str} {fa : List He.Fa} {fn : List He.DefD} {fc : List ClD} {bs : List (PySem.W.Frag → Bool)} {K : PySem.W.Frag} (c : SaysB file fa fn fc bs K) {b : PySem.W.Frag → Bool} (h : b ∈ bs) : b K = true :=
  List.all_eq_true.mp (congrArg Prod.snd c.eq : (bs.all fun b => b K) = true) b h
structure ErrOk (K : PySem.W.Frag) (b : EBase) (c f : Str) : Prop where
  sup : SupC K (He.ga K c) (He.ga K c) b
  ini : PySem.W.findIn K (.ref (He.ga K c)) "__init__" = some (some (.ref (He.fAd K (c, some "__init__")))) ∧ PySem.W.typeIn K (.ref (He.fAd K (c, some "__init__"))) = some (.type "function")
  no1 : PySem.W.findIn K (.ref (He.ga K c)) "code" = some none
  no2 : PySem.W.findIn K (.ref (He.ga K c)) f = some none
  xf : XfC K (He.ga K c)
theorem errOk_of {K : PySem.W.Frag} {b : EBase} {c f : Str} (h : ∀ z ∈ errBs b c f, z K = true) : ErrOk K b c f :=
  ⟨supB_ok (h (fun K => supB b K (He.ga K c) (He.ga K c)) (by simp [errBs])), iniB_ok (h (iniB c) (by simp [errBs])), noB_ok (h (noB c "code") (by simp [errBs])), noB_ok (h (noB c f) (by simp [errBs])), L2.xfB_ok (h (fun K => L2.xfB K (He.ga K c)) (by simp [errBs]))⟩
end Dv

/-! DwY: isinstance of an own error; classes as values. -/
namespace Dv
open PySem PySem.Spec PyProof.Rows L2
/-- what isinstance asks of an own error class -/
structure ExcI (K : PySem.W.Frag) (C : Addr) : Prop where
  cl : (PySem.W.clsIn K C).isSome = true
  ga : PySem.W.findIn K (.ref C) "__getattribute__" = some (some (.builtin "BaseException.__getattribute__"))
  gt : PySem.W.findIn K (.ref C) "__getattr__" = some none
  be : PySem.W.subIn K (.ref C) (.type "BaseException") = some true
  ca : PySem.W.findIn K (.ref C) "__class__" = some (some (.builtin "object.__class__"))
  cg : PySem.W.specialIn K (.builtin "object.__class__") "__get__" = some (some (.builtin "getset_descriptor.__get__"))
  ct : PySem.W.takesIn K (.builtin "object.__class__") = some true
  ob : PySem.W.mroIn K C (.type "object") = some true
def excIB (K : PySem.W.Frag) (C : Addr) : Bool := (PySem.W.clsIn K C).isSome && (decide (PySem.W.findIn K (.ref C) "__getattribute__" = some (some (.builtin "BaseException.__getattribute__"))) && (decide (PySem.W.findIn K (.ref C) "__getattr__" = some none) && (decide (PySem.W.subIn K (.ref C) (.type "BaseException") = some true) &&
  (decide (PySem.W.findIn K (.ref C) "__class__" = some (some (.builtin "object.__class__"))) && (decide (PySem.W.specialIn K (.builtin "object.__class__") "__get__" = some (some (.builtin "getset_descriptor.__get__"))) && (decide (PySem.W.takesIn K (.builtin "object.__class__") = some true) && decide (PySem.W.mroIn K C (.type "object") = some true)))))))
theorem excIB_ok {K : PySem.W.Frag} {C : Addr} (h : excIB K C = true) : ExcI K C := by
  unfold excIB at h
  simp only [Bool.and_eq_true, decide_eq_true_eq] at h
  exact ⟨h.1, h.2.1, h.2.2.1, h.2.2.2.1, h.2.2.2.2.1, h.2.2.2.2.2.1, h.2.2.2.2.2.2.1, h.2.2.2.2.2.2.2⟩
def rIsiX (K : PySem.W.Frag) : List V → Hp → VK → Prop := fun xs H Q => ∃ (a C d : Addr) (fs : List (Str × V)) (c : V) (u : Value) (b : Bool), xs = [.ref a, c] ∧ ClsV c u ∧ H a = some (exv a C d) ∧ H d = some (.xd fs) ∧ ExcI K C ∧ PySem.W.kitOne K (.ref C) u = some b ∧ Q (.bl b) H
section
variable {X : Cx} {B : Bs} {W : WX}
theorem call_isiX : CallR X (.builtin "isinstance") (rIsiX X.K) := by
  intro pins s σ H xs us Q I r h
  obtain ⟨a, C, d, fs, c, u, b, rfl, k, ea, ed, T, e, q⟩ := h
  obtain ⟨u1, u2, rfl, r1, r2⟩ := vals2 r
  have e1 : u1 = Value.ref a := r1
  have e2 := k.eq r2
  subst e1 e2
  obtain ⟨oe, vs, at_, cl, di, data⟩ := exv_at I.hok ea
  obtain ⟨mA, ns, _⟩ := (show ∃ mA, s.heap.Ns1 d mA ∧ ∀ f, RelO (fs.lookup f) (mA f) from I.hok d _ ed)
  obtain ⟨od, got, _⟩ := lookIn_ns ns
  have inst : PySem.W.InstAt s.heap a oe C (some od) := ⟨at_, cl, by unfold PySem.W.notCls; rw [data], by rw [di]; exact got⟩
  exact PySem.W.kia_one (PySem.W.kitx_exc T.cl T.ga T.gt T.be T.ca T.cg T.ct T.ob) I.kIn inst e (fun z => nomatch z) fun tk => ⟨.bl b, H, I.tok tk, rfl, q⟩
/-- the classes cs of errors, over the classes xs and the built-in ones ts: anc tells a class's ancestors -/
structure IsiF (K : PySem.W.Frag) (mg : Str → Option Value) (cs xs : List Str) (ts : List String) (anc : Str → List Str) : Prop where
  ok : ∀ c ∈ cs, ∃ C : Addr, mg c = some (.ref C) ∧ ExcI K C ∧ (∀ x ∈ xs, ∃ D : Addr, mg x = some (.ref D) ∧ PySem.W.kitOne K (.ref C) (.ref D) = some (decide (x ∈ anc c))) ∧ ∀ t ∈ ts, PySem.W.kitOne K (.ref C) (.type t) = some (decide (Str.ofString t ∈ anc c))
def fIsiX (cs xs : List Str) (ts : List String) (anc : Str → List Str) : FA
  | [.exn c _, .glo x], μ => if c ∈ cs ∧ x ∈ xs then ret (.bl (decide (x ∈ anc c))) μ else none
  | [.exn c _, .ty t], μ => if c ∈ cs ∧ t ∈ ts then ret (.bl (decide (Str.ofString t ∈ anc c))) μ else none
  | _, _ => none
theorem ca_isiX {cs xs : List Str} {ts : List String} {anc : Str → List Str} (F : IsiF X.K X.mg cs xs ts anc) : CallD (tx X) (rIsiX X.K) (fIsiX cs xs ts anc) := by
  intro B W σ env ρ G H μ vs ds Q R h k
  unfold fIsiX at k
  split at k
  · split at k
    · rename_i hc
      obtain ⟨v, u, rfl, hv, hu⟩ := hreps2 h
      obtain ⟨a, C, d, vf, rfl, hm, g1, g2, _⟩ := exn_inv hv
      obtain ⟨C', hm', T, own, _⟩ := F.ok _ hc.1
      have hm : X.mg _ = some (.ref C) := hm
      rw [hm] at hm'; cases hm'
      obtain ⟨D, hD, e⟩ := own _ hc.2
      have hu : Rep (tx X) ρ G u (.glo _) := hu
      unfold Rep at hu
      obtain ⟨D', rfl, hD'⟩ := hu
      have hD' : X.mg _ = some (.ref D') := hD'
      rw [hD] at hD'; cases hD'
      exact ⟨a, C, d, vf, _, _, _, rfl, .own D, R.gh _ _ g1, R.gh _ _ g2, T, e, k.here R (.ofR rep_bl)⟩
    · exact k.elim
  · split at k
    · rename_i hc
      obtain ⟨v, u, rfl, hv, hu⟩ := hreps2 h
      obtain ⟨a, C, d, vf, rfl, hm, g1, g2, _⟩ := exn_inv hv
      obtain ⟨C', hm', T, _, own⟩ := F.ok _ hc.1
      have hm : X.mg _ = some (.ref C) := hm
      rw [hm] at hm'; cases hm'
      have e := own _ hc.2
      have hu : Rep (tx X) ρ G u (.ty _) := hu
      unfold Rep at hu
      subst hu
      exact ⟨a, C, d, vf, _, _, _, rfl, .ty _, R.gh _ _ g1, R.gh _ _ g2, T, e, k.here R (.ofR rep_bl)⟩
    · exact k.elim
  · exact k.elim
theorem isiX_ {cs xs : List Str} {ts : List String} {anc : Str → List Str} {p pos : Pos} {e : Expr} {es : List Expr} {n : DEnv → Mu → Res (List D)} (F : IsiF X.K X.mg cs xs ts anc) (hm : X.mg "isinstance" = none) (ha : DA X B W (e :: es) n) (hg : Gl X "isinstance" := by rfl) (he : starEach (e :: es) X.env = (false, eval e X.env) :: starEach es X.env := by rfl) (hpl : (backTo pos (starEach es X.env)).any (·.1) = false := by rfl) :
    DE X B W (.Call (.Name "isinstance" p) (e :: es) [] pos) (dCall (fIsiX cs xs ts anc) n) := de_callB call_isiX (ca_isiX F) hg hm boot_isi' ha (by decide) (by decide) he hpl
/-- a class by its name -/
theorem g_cls {x : Str} {p : Pos} {C : Addr} (h : X.mg x = some (.ref C)) (hg : Gl X x := by rfl) (hd : (x == ("__debug__" : Str)) = false := by decide) : DE X B W (.Name x p) (dC (.glo x)) :=
  de_c (pe_glob (v := .ref C) hg h rfl hd) fun ρ G => by unfold Rep; exact ⟨C, rfl, h⟩
theorem ty_any {x : Str} {p : Pos} {n : String} (hm : X.mg x = none) (hv : bootBuiltins x = some (.type n)) (hn : x ≠ "__name__" := by decide) (hd : (x == ("__debug__" : Str)) = false := by decide) (hg : Gl X x := by rfl) : DE X B W (.Name x p) (dC (.ty n)) :=
  de_c (pe_bltn hg hm (u := .type n) hv (show RelV (.ty n) (.type n) from rfl) hn hd) fun _ _ => rep_ty
end
/-- the checks -/
def isiB (cs xs : List Str) (ts : List String) (anc : Str → List Str) : PySem.W.Frag → Bool := fun K => cs.all fun c => excIB K (He.ga K c) && (xs.all (fun x => decide (PySem.W.kitOne K (.ref (He.ga K c)) (.ref (He.ga K x)) = some (decide (x ∈ anc c)))) && ts.all fun t => decide (PySem.W.kitOne K (.ref (He.ga K c)) (.type t) = some (decide (Str.ofString t ∈ anc c))))
theorem isiB_ok {K : PySem.W.Frag} {mg : Str → Option Value} {cs xs : List Str} {ts : List String} {anc : Str → List Str} (h : isiB cs xs ts anc K = true) (hc : ∀ c ∈ cs, mg c = some (.ref (He.ga K c))) (hx : ∀ x ∈ xs, mg x = some (.ref (He.ga K x))) : IsiF K mg cs xs ts anc := by
  constructor
  intro c hcs
  have q := List.all_eq_true.mp h c hcs
  simp only [Bool.and_eq_true] at q
  refine ⟨_, hc c hcs, excIB_ok q.1, fun x hxs => ⟨_, hx x hxs, ?_⟩, fun t ht => ?_⟩
  · exact of_decide_eq_true (List.all_eq_true.mp q.2.1 x hxs)
  · exact of_decide_eq_true (List.all_eq_true.mp q.2.2 t ht)
end Dv

/-! DwZ: instances of own classes as deep values: their fields, their making, methods. -/
namespace Dv
open PySem PySem.Spec PyProof.Rows L2
/-! ### nothing of the store within a value -/
mutual
def noObj : D → Bool
  | .obj _ => false
  | .tup l => noObjs l
  | .lst l => noObjs l
  | .scr l => noObjs l
  | .ins _ fs => noObjF fs
  | .exn _ fs => noObjF fs
  | .clo _ ds => noObjs ds
  | _ => true
def noObjs : List D → Bool
  | [] => true
  | d :: ds => noObj d && noObjs ds
def noObjF : List (Str × D) → Bool
  | [] => true
  | (_, d) :: ds => noObj d && noObjF ds
end
section
variable {T : Tx} {ρ ρ' : List Addr} {G : Hp}
mutual
theorem Rep.off : ∀ {d : D} {v : V}, noObj d = true → Rep T ρ G v d → Rep T ρ' G v d
  | .non, _, _, h => h
  | .bl _, _, _, h => h
  | .int _, _, _, h => h
  | .str _, _, _, h => h
  | .ty _, _, _, h => h
  | .glo _, _, _, h => h
  | .fn _, _, _, h => h
  | .rng _ _, _, _, h => h
  | .lam _ _, _, _, h => h
  | .clo _ ds, v, n, h => by
    unfold noObj at n; unfold Rep at h ⊢
    obtain ⟨f, cl, vs, e, q1, q2, r⟩ := h
    exact ⟨f, cl, vs, e, q1, q2, Reps.off n r⟩
  | .obj _, _, n, _ => by unfold noObj at n; cases n
  | .new _, _, _, h => by unfold Rep at h; exact h.elim
  | .bor _, _, _, h => by unfold Rep at h; exact h.elim
  | .tup l, v, n, h => by
    unfold noObj at n; unfold Rep at h ⊢
    obtain ⟨a, vs, e, q, z, r⟩ := h
    exact ⟨a, vs, e, q, z, Reps.off n r⟩
  | .lst l, v, n, h => by
    unfold noObj at n; unfold Rep at h ⊢
    obtain ⟨a, vs, e, q, z, r⟩ := h
    exact ⟨a, vs, e, q, z, Reps.off n r⟩
  | .scr l, v, n, h => by
    unfold noObj at n; unfold Rep at h ⊢
    obtain ⟨a, vs, e, q, z, r⟩ := h
    exact ⟨a, vs, e, q, z, Reps.off n r⟩
  | .ins c fs, v, n, h => by
    unfold noObj at n; unfold Rep at h ⊢
    obtain ⟨a, C, dx, vf, e, m, q, r⟩ := h
    exact ⟨a, C, dx, vf, e, m, q, RepF.off n r⟩
  | .exn c fs, v, n, h => by
    unfold noObj at n; unfold Rep at h ⊢
    obtain ⟨a, C, dx, vf, e, m, q, q2, r⟩ := h
    exact ⟨a, C, dx, vf, e, m, q, q2, RepF.off n r⟩
theorem Reps.off : ∀ {l : List D} {vs : List V}, noObjs l = true → Reps T ρ G vs l → Reps T ρ' G vs l
  | [], _, _, h => by unfold Reps at h ⊢; exact h
  | d :: ds, vs, n, h => by
    unfold noObjs at n
    rw [Bool.and_eq_true] at n
    unfold Reps at h ⊢
    obtain ⟨v, r, e, q, t⟩ := h
    exact ⟨v, r, e, Rep.off n.1 q, Reps.off n.2 t⟩
theorem RepF.off : ∀ {l : List (Str × D)} {vs : List (Str × V)}, noObjF l = true → RepF T ρ G vs l → RepF T ρ' G vs l
  | [], _, _, h => by unfold RepF at h ⊢; exact h
  | (f, d) :: ds, vs, n, h => by
    unfold noObjF at n
    rw [Bool.and_eq_true] at n
    unfold RepF at h ⊢
    obtain ⟨v, r, e, q, t⟩ := h
    exact ⟨v, r, e, Rep.off n.1 q, RepF.off n.2 t⟩
end
theorem RepF.nil : RepF T ρ G [] [] := by unfold RepF; rfl
theorem RepF.length : ∀ {l : List (Str × D)} {vs : List (Str × V)}, RepF T ρ G vs l → vs.length = l.length
  | [], vs, h => by unfold RepF at h; subst h; rfl
  | (f, d) :: ds, vs, h => by
    unfold RepF at h
    obtain ⟨v, r, rfl, _, t⟩ := h
    simp [RepF.length t]
def putFD (f : Str) (v : D) : List (Str × D) → List (Str × D)
  | [] => [(f, v)]
  | (g, x) :: r => if g = f then (g, v) :: r else (g, x) :: putFD f v r
theorem RepF.put {f : Str} {v : V} {d : D} (h : Rep T ρ G v d) : ∀ {l : List (Str × D)} {vs : List (Str × V)}, RepF T ρ G vs l → RepF T ρ G (putF f v vs) (putFD f d l)
  | [], vs, q => by
    unfold RepF at q; subst q
    exact repF1 h
  | (g, x) :: l, vs, q => by
    unfold RepF at q
    obtain ⟨u, r, rfl, qx, t⟩ := q
    unfold putF putFD
    by_cases e : g = f
    · rw [if_pos e, if_pos e]
      unfold RepF
      exact ⟨v, r, rfl, h, t⟩
    · rw [if_neg e, if_neg e]
      unfold RepF
      exact ⟨u, _, rfl, qx, RepF.put h t⟩
theorem RepF.none {f : Str} : ∀ {l : List (Str × D)} {vs : List (Str × V)}, RepF T ρ G vs l → l.lookup f = none → vs.lookup f = Option.none
  | [], vs, q, _ => by unfold RepF at q; subst q; rfl
  | (g, x) :: l, vs, q, e => by
    unfold RepF at q
    obtain ⟨u, r, rfl, _, t⟩ := q
    unfold List.lookup at e ⊢
    by_cases h : (f == g) = true
    · rw [h] at e; cases e
    · rw [Bool.eq_false_iff.mpr h] at e ⊢
      exact RepF.none t e
end
def muOk (μ : Mu) : Bool := μ.all fun m => match m with
  | .slf _ fs => noObjF fs
  | _ => true
theorem MR.off {T : Tx} {ρ ρ' : List Addr} {G H : Hp} {a : Addr} {m : MObj} (r : MR T ρ G H a m) (n : muOk [m] = true) : MR T ρ' G H a m := by
  cases m with
  | slf c fs =>
    obtain ⟨C, dx, vf, e0, e1, e2⟩ := r
    have n : (noObjF fs && true) = true := n
    rw [Bool.and_true] at n
    exact ⟨C, dx, vf, e0, e1, e2.off n⟩
  | src s => exact r
  | tab p q => exact r
/-- an object of the store is replaced -/
theorem RD.setObj {T : Tx} {B : Bs} {ρ : List Addr} {G H : Hp} {σ : L2.St} {env : DEnv} {μ : Mu} {k : Nat} {a : Addr} {o : HO} {m : MObj} (R : RD T B ρ G H σ env μ) (ha : ρ[k]? = some a) (new : MR T ρ G (upd H a o) a m) : RD T B ρ G (upd H a o) σ env (μ.set k m) := by
  have am : a ∈ ρ := List.mem_of_getElem? ha
  have ga := R.st.off a am
  have hk : k < μ.length := by rw [← R.st.len]; exact (List.getElem?_eq_some_iff.mp ha).1
  refine ⟨fun b u e => ?_, ⟨R.ext.gg, R.ext.pre, fun b u e => ?_, R.ext.fg, R.ext.fr⟩, R.len, fun i t ht => ?_, R.own, ⟨by rw [List.length_set]; exact R.st.len, R.st.nd, R.st.off, fun j z hm => ?_⟩, fun q hq => ?_, R.xn⟩
  · rw [upd_ne (fun q => by rw [q, ga] at e; cases e)]; exact R.gh b u e
  · by_cases q : b = a
    · refine ⟨o, by rw [q]; exact upd_same, fun n => ?_⟩
      rw [q] at e n
      rw [R.ext.fr a am n] at e; cases e
    · rw [upd_ne q]; exact R.ext.keep b u e
  · have h := R.slot i t ht
    match t, h with
    | .no, _ => exact True.intro
    | .v d, h => exact h
    | .own l', ⟨p, vs, q1, q2, q3, q4, q5, q6, q7⟩ => exact ⟨p, vs, q1, by rw [upd_ne (fun z => by rw [z] at q6; exact q6 am)]; exact q2, q3, q4, q5, q6, q7⟩
  · by_cases q : k = j
    · subst q
      rw [List.getElem?_set_self hk] at hm
      cases hm
      exact ⟨a, ha, new⟩
    · rw [List.getElem?_set_ne q] at hm
      obtain ⟨a', ea, r⟩ := R.st.at_ j z hm
      have ne : a' ≠ a := fun e => by
        rw [e] at ea
        exact q ((List.getElem?_inj (List.getElem?_eq_some_iff.mp ha).1 R.st.nd).mp (ha.trans ea.symm))
      exact ⟨a', ea, r.to (fun _ _ e => e) fun o e1 => by rw [upd_ne ne]; exact e1⟩
  · obtain ⟨q1, q2, q3, q4⟩ := R.xo q hq
    exact ⟨by rw [upd_ne (fun z => by rw [z] at q3; exact q3 am)]; exact q1, q2, q3, q4⟩
/-! ### fields -/
structure ClsF (K : PySem.W.Frag) (mg : Str → Option Value) (cs : List Str) (f : Str) : Prop where
  ok : ∀ c ∈ cs, ∃ C : Addr, mg c = some (.ref C) ∧ Cls K C ∧ NoAttr K C f
/-- an instance's class and fields: a value, or an object that is being made -/
def fldsOf (μ : Mu) : D → Option (Str × List (Str × D))
  | .ins c fs => some (c, fs)
  | .obj k => (match μ[k]? with
    | some (.slf c fs) => some (c, fs)
    | _ => none)
  | _ => none
theorem inst_inv {T : Tx} {B : Bs} {ρ : List Addr} {G H : Hp} {σ : L2.St} {env : DEnv} {μ : Mu} {x : V} {d : D} {c : Str} {fs : List (Str × D)} (R : RD T B ρ G H σ env μ) (h : HeldR T ρ G σ env x d) (e : fldsOf μ d = some (c, fs)) :
    ∃ a C dx vf, x = .ref a ∧ T.mg c = some (.ref C) ∧ H a = some (.ins C dx vf) ∧ RepF T ρ G vf fs := by
  cases d with
  | ins c' fs' =>
    cases e
    have h : Rep T ρ G x (.ins c fs) := h
    unfold Rep at h
    obtain ⟨a, C, dx, vf, e1, m, q, r⟩ := h
    exact ⟨a, C, dx, vf, e1, m, R.gh _ _ q, r⟩
  | obj k =>
    obtain ⟨a, rfl, ha⟩ := obj_inv h
    change (match μ[k]? with
      | some (MObj.slf c fs) => some (c, fs)
      | _ => none) = some (c, fs) at e
    split at e
    · rename_i c' fs' hm
      cases e
      obtain ⟨a', ea, C, dx, vf, e0, e1, e2⟩ := R.st.at_ k _ hm
      rw [ha] at ea; cases ea
      exact ⟨a, C, dx, vf, rfl, e0, e1, e2⟩
    · cases e
  | _ => cases e
def fFld (cs : List Str) (f : Str) (d : D) (μ : Mu) : Res D := match fldsOf μ d with
  | some (c, fs) => if c ∈ cs then (match fs.lookup f with
    | some x => ret x μ
    | none => none) else none
  | none => none
def dFld (cs : List Str) (f : Str) (m : DEx) : DEx := fun env μ => bindR (m env μ) fun d μ => fFld cs f (hold d) μ
section
variable {X : Cx} {B : Bs} {W : WX} {e o : Expr} {es : List Expr} {m me mo : DEx} {p p' pos apos : Pos} {cs : List Str} {f : Str}
theorem de_fld (he : DE X B W e m) (F : ClsF X.K X.mg cs f) (plain : attributeBase e f X.env (eval e X.env) = eval e X.env := by rfl) : DE X B W (.Attribute e f pos) (dFld cs f m) := by
  refine ⟨peImp (pe_fld he.run plain) fun σ H Q ⟨ρ, G, env, μ, R, k⟩ => ?_⟩
  refine rd_then (f := fun d μ => fFld cs f (hold d) μ) R k fun ρ1 G1 H1 μ1 x d s p R1 hx k1 => ?_
  unfold fFld at k1
  split at k1
  · rename_i c fs hf
    split at k1
    · rename_i hc
      split at k1
      · rename_i d' hl
        obtain ⟨a, C, dx, vf, rfl, hm, g1, rf⟩ := inst_inv R1 hx hf
        obtain ⟨C', hm', T, own⟩ := F.ok _ hc
        have hm : X.mg _ = some (.ref C) := hm
        rw [hm] at hm'; cases hm'
        obtain ⟨v, hv, rv⟩ := repF_get rf hl
        exact ⟨a, C, dx, vf, v, rfl, g1, T, own, hv, k1.here R1 (.ofR rv)⟩
      · exact k1.elim
    · exact k1.elim
  · exact k1.elim
/-- one reading, else another -/
def dAlt (m n : DEx) : DEx := fun env μ => match m env μ with
  | none => n env μ
  | r => r
theorem de_alt (h : DE X B W e m) (g : DE X B W e me) : DE X B W e (dAlt m me) := by
  refine ⟨⟨fun pins s σ H Q I ⟨ρ, G, env, μ, R, k⟩ => ?_⟩⟩
  unfold dAlt at k
  cases hm : m env μ with
  | none => rw [hm] at k; exact g.run.run pins s σ H Q I ⟨ρ, G, env, μ, R, k⟩
  | some r => rw [hm] at k; exact h.run.run pins s σ H Q I ⟨ρ, G, env, μ, R, by rw [hm]; exact k⟩
/-- self.f = e -/
def dSetF (cs : List Str) (f : Str) (me mo : DEx) : DSt := fun env μ => bindS env (me env μ) fun d μ => bindS env (mo env μ) fun o μ => match hold o with
  | .obj k => (match μ[k]? with
    | some (.slf c fs) => if c ∈ cs ∧ fs.length < 100 ∧ nobor d = true then some (.val .nx, env, μ.set k (.slf c (putFD f (hold d) fs))) else none
    | _ => none)
  | _ => none
theorem ds_fld (he : DE X B W e me) (ho : DE X B W o mo) (F : ClsF X.K X.mg cs f) (sw : swapsWith e (some (.Attribute o f p')) pos.line X.env = pure false := by rfl) : DS X B W (.Assign [.Attribute o f p'] e pos) (dSetF cs f me mo) := by
  refine ⟨psImp (ps_fld ho.run he.run sw) fun De σ H ⟨ρ, G, env, μ, R, k⟩ => ?_⟩
  refine rd_thenS (f := fun d μ => bindS env (mo env μ) fun o μ => match hold o with
    | .obj k => (match μ[k]? with
      | some (.slf c fs) => if c ∈ cs ∧ fs.length < 100 ∧ nobor d = true then some (.val .nx, env, μ.set k (.slf c (putFD f (hold d) fs))) else none
      | _ => none)
    | _ => none) R k fun ρ1 G1 H1 μ1 x d s p R1 hx k1 => ?_
  refine rd_thenS (f := fun o μ => match hold o with
    | .obj k => (match μ[k]? with
      | some (.slf c fs) => if c ∈ cs ∧ fs.length < 100 ∧ nobor d = true then some (.val .nx, env, μ.set k (.slf c (putFD f (hold d) fs))) else none
      | _ => none)
    | _ => none) R1 k1 fun ρ2 G2 H2 μ2 y o2 s2 p2 R2 hy k2 => ?_
  have hx := hx.mono s2 p2
  split at k2
  · rename_i kk ho2
    rw [ho2] at hy
    split at k2
    · rename_i c fs hm
      split at k2
      · rename_i hc
        obtain ⟨a, rfl, ha⟩ := obj_inv hy
        obtain ⟨a', ea, C, dx, vf, e0, e1, e2⟩ := R2.st.at_ kk _ hm
        rw [ha] at ea; cases ea
        obtain ⟨C', hm', T, own⟩ := F.ok _ hc.1
        have e0 : X.mg c = some (.ref C) := e0
        rw [e0] at hm'; cases hm'
        have len := e2.length
        refine ⟨a, C, dx, vf, rfl, e1, T, own, by omega, ?_⟩
        exact k2 σ ρ2 G2 _ (fun _ _ h => h) (.refl _) (R2.setObj ha ⟨C, dx, _, e0, upd_same, e2.put (hx.rep (hold_nobor hc.2.2))⟩)
      · exact k2.elim
    · exact k2.elim
  · exact k2.elim
end
end Dv

/-! DwZA: instances are made; their methods are called. -/
namespace Dv
open PySem PySem.Spec PyProof.Rows L2
section
variable {X : Cx} {CX : CXT} {k : Nat} {C fI : Addr} {fd : FuncData} {ps : List Str} {sp : Sp} {E : L2.St → XK}
/-- the object is laid, its init runs; what is let out is told of the very state -/
theorem made_ins {pins : List (Addr × Obj)} {σ : L2.St} {H : Hp} {s : Shared} {Q : VK} {us : List Value} {vs : List V} (M : Mk X.K C fI) (F : FnOk X.prog X.w X.K X.mg X.base CX k fI fd ps sp) (hr : Room (k + 1) X.A) (hb : Binds X.K fd ps []) (hx : PassesAt CX X σ (E σ)) (I : Inv X pins σ H s) (r : Vals vs us)
    (told : ∀ x dx, H x = none → H dx = none → dx ≠ x → sp (.ref x :: vs) (upd (upd H dx (.own x)) x (.ins C dx [])) (fun v H2 => v = .non ∧ Q (.ref x) H2) (E σ)) : wpAny (model X.prog X.w) X.A (call (.ref C) us) (EP X pins σ Q) X.xe s := by
  have n1 : H (s.heap.objs.size + 1) = none := I.hok.fresh (Nat.le_succ _)
  have n2 : H s.heap.objs.size = none := I.hok.fresh (Nat.le_refl _)
  have q := told _ _ n1 n2 (Nat.ne_of_lt (Nat.lt_succ_self _))
  have J := Inv.made (C := C) I
  have rv : Vals (V.ref (s.heap.objs.size + 1) :: vs) (Value.ref (s.heap.objs.size + 1) :: us) := .cons rfl r
  have len : ((Value.ref (s.heap.objs.size + 1) :: us) ++ ([] : List Value)).length = ps.length := by rw [List.append_nil, ← F.len _ _ _ _ q]; exact rv.length.symm
  have bind := hb _ _ J.kIn len
  rw [List.append_nil] at bind
  refine wpAny_call (make_map (f := fI) I.kIn M.makes M.init (beq_iff_eq.mp M.fn) ?_)
  refine codeAny_mono (F.run _ X.stack _ _ _ _ _ _ _ (hr.make C us []) (J.env0.make C us []) bind rv q) fun r s2 out => ?_
  match r, out with
  | .error er, out => exact hx pins _ _ er s2 J out
  | .ok .next, out => exact False.elim out
  | .ok .brk, out => exact False.elim out
  | .ok .cont, out => exact False.elim out
  | .ok (.ret u), out =>
    obtain ⟨_, H2, J2, rel, rfl, z⟩ := J.after out
    exact ⟨rel, ⟨V.ref (s.heap.objs.size + 1), H2, J2, rfl, z⟩⟩
end
/-- such a class by its name -/
structure MkC (P : Program) (w : World) (K : PySem.W.Frag) (mg : Str → Option Value) (base : Heap) (c : Str) (ps : List Str) (k : Nat) (m : Fn) : Prop where
  ex : ∃ (C fI : Addr) (fd : FuncData), mg c = some (.ref C) ∧ Mk K C fI ∧ Binds K fd ps [] ∧ FnOk P w K mg base (L2.CX P w) k fI fd ps (spD ⟨K, mg⟩ ps.length m)
/-- C(e, ..): n, how many init takes; m, its meaning -/
def fMake (c : Str) (n : Nat) (m : Fn) : FA := fun ds μ => if ds.length + 1 = n ∧ ds.all nobor = true then (match m (.obj μ.length :: ds) (μ ++ [.slf c []]) with
  | some (.val .non, μ') => (match μ'[μ.length]? with
    | some (.slf c' fs) => if μ'.length = μ.length + 1 ∧ c' = c ∧ noObjF fs = true ∧ muOk (μ'.take μ.length) = true then ret (.ins c fs) (μ'.take μ.length) else none
    | _ => none)
  | some (.exc x, μ') => if μ'.length = μ.length + 1 ∧ noObjF x.fs = true ∧ muOk (μ'.take μ.length) = true then some (.exc x, μ'.take μ.length) else none
  | _ => none) else none
theorem muOk_get {μ : Mu} {k : Nat} {m : MObj} (h : muOk μ = true) (e : μ[k]? = some m) : muOk [m] = true := by
  unfold muOk at h ⊢
  have q := List.all_eq_true.mp h m (List.mem_of_getElem? e)
  simp only [List.all_cons, List.all_nil, Bool.and_true]
  exact q
theorem pre_eq {ρ ρ' : List Addr} (p : Pre ρ ρ') (l : ρ'.length = ρ.length) : ρ' = ρ := by
  apply List.ext_getElem?
  intro k
  cases h : ρ[k]? with
  | some a => exact p k a h
  | none =>
    rw [List.getElem?_eq_none_iff] at h ⊢
    omega
section
variable {T : Tx} {B : Bs} {W : WX} {ρ : List Addr} {G H : Hp} {σ : L2.St} {env : DEnv} {μ : Mu} {Q : VK}
/-- what the init is told, what its end comes to -/
theorem sp_make {c : Str} {n : Nat} {m : Fn} {C x dx : Addr} {ds : List D} {vs : List V} (R : RD T B ρ G H σ env μ) (hm : T.mg c = some (.ref C)) (hv : HReps T ρ G σ env vs ds) (k : KE T B σ env W (PX T B σ env Q) ρ G (fMake c n m ds μ)) (nx : H x = none) (nd : H dx = none) (ne : dx ≠ x) :
    spD T n m (.ref x :: vs) (upd (upd H dx (.own x)) x (.ins C dx [])) (fun v H2 => v = .non ∧ Q (.ref x) H2) (fun cls d H => W cls d σ H) := by
  unfold fMake at k
  split at k
  · rename_i hl
    obtain ⟨gx, px, bx⟩ := R.fresh_ nx
    have gd := (R.fresh_ nd).1
    have r := hv.reps hl.2
    have old : ∀ {b : Addr} {o : HO}, H b = some o → upd (upd H dx (.own x)) x (.ins C dx []) b = some o := fun {b o} e => by
      rw [upd_ne (ne_of_none e nx), upd_ne (ne_of_none e nd)]; exact e
    have pre : Pre ρ (ρ ++ [x]) := fun j a e => by rw [List.getElem?_append_left (List.getElem?_eq_some_iff.mp e).1]; exact e
    have last : (ρ ++ [x])[μ.length]? = some x := by rw [← R.st.len]; simp
    have st : StR T (ρ ++ [x]) G (upd (upd H dx (.own x)) x (.ins C dx [])) (μ ++ [.slf c []]) := by
      refine ⟨by simp [R.st.len], ?_, fun a ha => ?_, fun j z hz => ?_⟩
      · rw [List.nodup_append]
        exact ⟨R.st.nd, by simp, fun a ha b hb e => px (by rw [List.mem_singleton.mp hb] at e; rw [← e]; exact ha)⟩
      · rcases List.mem_append.mp ha with ha | ha
        · exact R.st.off a ha
        · rw [List.mem_singleton.mp ha]; exact gx
      · by_cases lt : j < μ.length
        · rw [List.getElem?_append_left lt] at hz
          obtain ⟨a, ea, rr⟩ := R.st.at_ j z hz
          exact ⟨a, pre _ _ ea, (rr.to (fun _ _ h => h) fun o e => old e).pre pre⟩
        · have ej : j = μ.length := by
            have := (List.getElem?_eq_some_iff.mp hz).1
            simp at this; omega
          subst ej
          rw [List.getElem?_append_right (Nat.le_refl _)] at hz
          simp at hz
          subst hz
          exact ⟨x, last, C, dx, [], hm, upd_same, .nil⟩
    refine ⟨by show vs.length + 1 = n; rw [r.length]; exact hl.1, ρ ++ [x], G, .obj μ.length :: ds, μ ++ [.slf c []], fun b u e => old (R.gh b u e), st, .cons (by unfold Rep; exact ⟨x, rfl, last⟩) (r.mono (fun _ _ h => h) pre), ?_⟩
    -- what holds behind it
    have behind : ∀ {ρ' : List Addr} {G' H' : Hp} {μ' : Mu}, Ext (ρ ++ [x]) G (upd (upd H dx (.own x)) x (.ins C dx [])) ρ' G' H' → Same G' H' → StR T ρ' G' H' μ' → μ'.length = μ.length + 1 → muOk (μ'.take μ.length) = true →
        ρ' = ρ ++ [x] ∧ ∀ G2 : Hp, Same G' G2 → Same G2 H' → (∀ a, a ≠ x → G2 a = G' a) → RD T B ρ G2 H' σ env (μ'.take μ.length) := fun {ρ' G' H' μ'} ex gh st' ln ok => by
      have eρ : ρ' = ρ ++ [x] := pre_eq ex.pre (by rw [st'.len, ln]; simp [R.st.len])
      subst eρ
      refine ⟨rfl, fun G2 s2 g2 same => R.after ⟨ex.gg.trans s2, .refl _, fun a o e => ?_, fun a o e n0 => ?_, fun a h n0 => absurd h n0⟩ g2 ⟨?_, R.st.nd, fun a ha => ?_, fun j z hz => ?_⟩⟩
      · obtain ⟨o', e', keep⟩ := ex.keep a o (old e)
        exact ⟨o', e', fun n0 => keep fun z => (List.mem_append.mp z).elim n0 fun z => (ne_of_none e nx) (List.mem_singleton.mp z)⟩
      · by_cases h : a = x
        · rw [h]; exact nx
        · rw [same a h] at e
          have z := ex.fg a o e n0
          rw [upd_ne h] at z
          by_cases h2 : a = dx
          · rw [h2]; exact nd
          · rw [upd_ne h2] at z; exact z
      · rw [List.length_take, ln, R.st.len]; omega
      · have nx' : a ≠ x := fun e => px (e ▸ ha)
        rw [same a nx']
        exact st'.off a (List.mem_append_left _ ha)
      · have lt : j < μ.length := by
          have := (List.getElem?_eq_some_iff.mp hz).1
          rw [List.length_take] at this; omega
        have hz' := hz
        rw [List.getElem?_take_of_lt lt] at hz'
        obtain ⟨a, ea, rr⟩ := st'.at_ j z hz'
        rw [List.getElem?_append_left (by rw [R.st.len]; exact lt)] at ea
        exact ⟨a, ea, (rr.off (muOk_get ok hz)).to s2 fun _ e => e⟩
    split at k
    · rename_i μ' e
      split at k
      · rename_i c' fs hs
        split at k
        · rename_i h
          obtain ⟨ln, rfl, nf, ok⟩ := h
          rw [e]
          intro v ρ' G' H' ex gh st' hv
          have hv : Rep T ρ' G' v .non := hv
          unfold Rep at hv
          obtain ⟨eρ, go⟩ := behind ex gh st' ln ok
          subst eρ
          obtain ⟨a, ea, C', dx', vf, m1, m2, rf⟩ := st'.at_ _ _ hs
          rw [last] at ea; cases ea
          have offx : G' x = none := st'.off x (by simp)
          have s2 : Same G' (upd G' x (.ins C' dx' vf)) := same_upd offx
          have g2 : Same (upd G' x (.ins C' dx' vf)) H' := fun b u z => by
            by_cases h : b = x
            · rw [h, upd_same] at z; cases z; rw [h]; exact m2
            · rw [upd_ne h] at z; exact gh b u z
          have R2 := go _ s2 g2 fun b h => upd_ne h
          refine ⟨hv, k ρ _ H' (ex.gg.trans s2) (.refl _) R2 (.ref x) (.ofR ?_)⟩
          unfold Rep
          exact ⟨x, C', dx', vf, rfl, m1, upd_same, (rf.off nf).mono s2 (.refl _)⟩
        · exact k.elim
      · exact k.elim
    · rename_i y μ' e
      split at k
      · rename_i h
        obtain ⟨ln, nf, ok⟩ := h
        rw [e]
        intro cls dd ρ' G' H' ex gh st' er
        obtain ⟨eρ, go⟩ := behind ex gh st' ln ok
        subst eρ
        have R2 := go G' (fun _ _ h => h) gh fun _ _ => rfl
        obtain ⟨C', d, vf, h1, h2, h3, h4, h5⟩ := er
        exact k ρ G' H' cls dd ex.gg (.refl _) R2 ⟨C', d, vf, h1, h2, h3, h4, h5.off nf⟩
      · exact k.elim
    · exact k.elim
  · exact k.elim
end
section
variable {X : Cx} {B : Bs} {W : WX} {e o : Expr} {es : List Expr} {p pos apos : Pos}
/-- C(e, ..) -/
theorem de_make {c : Str} {ps : List Str} {k n : Nat} {m : Fn} {na : DEnv → Mu → Res (List D)} (M : MkC X.prog X.w X.K X.mg X.base c ps k m) (hr : Room (k + 1) X.A) (tk : Takes X W) (hg : Gl X c) (ha : DA X B W (e :: es) na) (hn : ps.length = n := by rfl)
    (hdb : (c == ("__debug__" : Str)) = false := by decide) (he : starEach (e :: es) X.env = (false, eval e X.env) :: starEach es X.env := by rfl) (hpl : (backTo pos (starEach es X.env)).any (·.1) = false := by rfl) :
    DE X B W (.Call (.Name c p) (e :: es) [] pos) (dCall (fMake c n m) na) := by
  subst hn
  obtain ⟨C, fI, fd, hm, Mk', hb, F⟩ := M.ex
  refine ⟨⟨fun pins s σ H Q I ⟨ρ, G, env, μ, R, k⟩ => ?_⟩⟩
  apply wpAny_Call_Name_kw (ld_glob I hg hm ?_ hdb)
  apply PySem.W.callWith_K (h₀ := X.base) I.ok.mod.kin Mk'.kp ?_ he hpl
  refine thn (ha.run.run pos pins s σ H (fun vs H1 => ∃ ρ1 G1 ds μ1, RD (tx X) B ρ1 G1 H1 σ env μ1 ∧ HReps (tx X) ρ1 G1 σ env vs ds ∧ KE (tx X) B σ env W (PX (tx X) B σ env Q) ρ1 G1 (fMake c ps.length m ds μ1)) I ⟨ρ, G, env, μ, R, (KE.bind (f := fMake c ps.length m) k).imp fun ρ1 G1 H1 μ1 ds s p R1 k1 vs hvs => ⟨ρ1, G1, ds, μ1, R1, hvs, k1⟩⟩) fun us s1 ⟨vs, H1, I1, rel, ρ1, G1, ds, μ1, R1, hvs, k1⟩ => ⟨I1.kIn, ?_⟩
  exact made_ins (E := fun σ cls d H => W cls d σ H) Mk' F hr hb (passAt tk σ) I1 rel fun x dx nx nd ne => sp_make R1 hm hvs k1 nx nd ne
/-- C(), its init taking nothing but the object -/
theorem de_make0 {c : Str} {ps : List Str} {k n : Nat} {m : Fn} (M : MkC X.prog X.w X.K X.mg X.base c ps k m) (hr : Room (k + 1) X.A) (tk : Takes X W) (hg : Gl X c) (hn : ps.length = n := by rfl)
    (hdb : (c == ("__debug__" : Str)) = false := by decide) : DE X B W (.Call (.Name c p) [] [] pos) (dCall (fMake c n m) dNil) := by
  subst hn
  obtain ⟨C, fI, fd, hm, Mk', hb, F⟩ := M.ex
  refine ⟨⟨fun pins s σ H Q I ⟨ρ, G, env, μ, R, k⟩ => ?_⟩⟩
  apply wpAny_Call_Name_kw (ld_glob I hg hm ?_ hdb)
  exact PySem.W.callWith_K0 I.kIn Mk'.kp (made_ins (us := []) (E := fun σ cls d H => W cls d σ H) Mk' F hr hb (passAt tk σ) I .nil fun x dx nx nd ne => sp_make R hm .nil k nx nd ne)
/-! ### methods -/
structure MethC (P : Program) (w : World) (K : PySem.W.Frag) (mg : Str → Option Value) (base : Heap) (c m : Str) (ps : List Str) (k : Nat) (fn : Fn) : Prop where
  ex : ∃ (C g : Addr) (fd : FuncData), mg c = some (.ref C) ∧ Cls K C ∧ Meth K C m g ∧ Binds K fd ps [] ∧ FnOk P w K mg base (L2.CX P w) k g fd ps (spD ⟨K, mg⟩ ps.length fn)
/-- o.m(e, ..), o an instance of this very class -/
def dMeth (c m : Str) (n : Nat) (fn : Fn) (mo : DEx) (na : DEnv → Mu → Res (List D)) : DEx := fun env μ => bindR (mo env μ) fun d μ => match fldsOf μ (hold d) with
  | some (c', fs) => if c' = c ∧ fs.lookup m = none then bindR (na env μ) fun ds μ => fCall n fn (hold d :: ds) μ else none
  | none => none
abbrev methTree (X : Cx) (o : Expr) (m : Str) (apos pos : Pos) (args : List Expr) (pl : Sem Bool) : Prop := eval (.Call (.Attribute o m apos) args [] pos) X.env = (do
      let ov ← eval o X.env
      standAt apos.atName
      let (f, first) ← holding [ov] (getMethod ov m pl)
      callWith pos f first (backTo pos (starEach args X.env)) (backToKw pos (keywordEach [] X.env)))
theorem de_meth {c m : Str} {ps : List Str} {k n : Nat} {fn : Fn} {mo : DEx} {na : DEnv → Mu → Res (List D)} {pl : Sem Bool} (M : MethC X.prog X.w X.K X.mg X.base c m ps k fn) (hr : Room k X.A) (tk : Takes X W) (ho : DE X B W o mo) (ha : DA X B W (e :: es) na) (hn : ps.length = n := by rfl)
    (he : starEach (e :: es) X.env = (false, eval e X.env) :: starEach es X.env := by rfl) (hpl : (backTo pos (starEach es X.env)).any (·.1) = false := by rfl) (ht : methTree X o m apos pos (e :: es) pl := by rfl) :
    DE X B W (.Call (.Attribute o m apos) (e :: es) [] pos) (dMeth c m n fn mo na) := by
  subst hn
  obtain ⟨C, g, fd, hm, cl, me, hb, F⟩ := M.ex
  refine ⟨⟨fun pins s σ H Q I ⟨ρ, G, env, μ, R, k⟩ => ?_⟩⟩
  refine methcall_of ho.run I ?_ ht
  refine rd_then (f := fun d μ => match fldsOf μ (hold d) with
    | some (c', fs) => if c' = c ∧ fs.lookup m = none then bindR (na env μ) fun ds μ => fCall ps.length fn (hold d :: ds) μ else none
    | none => none) R k fun ρ1 G1 H1 μ1 x d s p R1 hx k1 => ?_
  split at k1
  · rename_i c' fs hf
    split at k1
    · rename_i hc
      obtain ⟨rfl, hl⟩ := hc
      obtain ⟨a, C', dx, vf, rfl, hm', ea, rf⟩ := inst_inv R1 hx hf
      have hm' : X.mg c' = some (.ref C') := hm'
      rw [hm] at hm'; cases hm'
      refine ⟨a, C, dx, vf, g, rfl, ea, cl, me, rf.none hl, fun s1 I1 => ?_⟩
      apply PySem.W.callWith_K (first := [.ref a]) (h₀ := X.base) I.ok.mod.kin me.kp ?_ he hpl
      refine thn (ha.run.run pos pins s1 σ H1 (fun vs H2 => ∃ ρ2 G2 ds μ2, RD (tx X) B ρ2 G2 H2 σ env μ2 ∧ HReps (tx X) ρ2 G2 σ env vs ds ∧ HeldR (tx X) ρ2 G2 σ env (.ref a) (hold d) ∧ KE (tx X) B σ env W (PX (tx X) B σ env Q) ρ2 G2 (fCall ps.length fn (hold d :: ds) μ2)) I1 ⟨ρ1, G1, env, μ1, R1, (KE.bind (f := fun ds μ => fCall ps.length fn (hold d :: ds) μ) k1).imp fun ρ2 G2 H2 μ2 ds s2 p2 R2 k2 vs hvs => ⟨ρ2, G2, ds, μ2, R2, hvs, hx.mono s2 p2, k2⟩⟩) fun us s2 ⟨vs, H2, I2, rel, ρ2, G2, ds, μ2, R2, hvs, hx2, k2⟩ => ⟨I2.kIn, ?_⟩
      have told := sp_call R2 (.cons hx2 hvs) k2
      have told : spD (tx X) ps.length fn ((.ref a :: vs) ++ []) H2 Q (fun cls d H => W cls d σ H) := by rw [List.append_nil]; exact told
      exact run_fnSD (us := .ref a :: us) (vs := .ref a :: vs) (E := fun σ cls d H => W cls d σ H) F hr hb .nil (passAt tk σ) I2 (.cons rfl rel) told
    · exact k1.elim
  · exact k1.elim
theorem de_meth0 {c m : Str} {ps : List Str} {k n : Nat} {fn : Fn} {mo : DEx} {pl : Sem Bool} (M : MethC X.prog X.w X.K X.mg X.base c m ps k fn) (hr : Room k X.A) (tk : Takes X W) (ho : DE X B W o mo) (hn : ps.length = n := by rfl) (ht : methTree X o m apos pos [] pl := by rfl) :
    DE X B W (.Call (.Attribute o m apos) [] [] pos) (dMeth c m n fn mo dNil) := by
  subst hn
  obtain ⟨C, g, fd, hm, cl, me, hb, F⟩ := M.ex
  refine ⟨⟨fun pins s σ H Q I ⟨ρ, G, env, μ, R, k⟩ => ?_⟩⟩
  refine methcall_of ho.run I ?_ ht
  refine rd_then (f := fun d μ => match fldsOf μ (hold d) with
    | some (c', fs) => if c' = c ∧ fs.lookup m = none then bindR (dNil env μ) fun ds μ => fCall ps.length fn (hold d :: ds) μ else none
    | none => none) R k fun ρ1 G1 H1 μ1 x d s p R1 hx k1 => ?_
  split at k1
  · rename_i c' fs hf
    split at k1
    · rename_i hc
      obtain ⟨rfl, hl⟩ := hc
      obtain ⟨a, C', dx, vf, rfl, hm', ea, rf⟩ := inst_inv R1 hx hf
      have hm' : X.mg c' = some (.ref C') := hm'
      rw [hm] at hm'; cases hm'
      refine ⟨a, C, dx, vf, g, rfl, ea, cl, me, rf.none hl, fun s1 I1 => ?_⟩
      have k2 : KE (tx X) B σ env W (PX (tx X) B σ env Q) ρ1 G1 (fCall ps.length fn [hold d] μ1) := k1
      have told := sp_call R1 (.cons hx .nil) k2
      have told : spD (tx X) ps.length fn ([.ref a] ++ []) H1 Q (fun cls d H => W cls d σ H) := told
      exact PySem.W.callWith_K0 (first := [.ref a]) I1.kIn me.kp (run_fnSD (us := [.ref a]) (vs := [.ref a]) (E := fun σ cls d H => W cls d σ H) F hr hb .nil (passAt tk σ) I1 (.cons rfl .nil) told)
    · exact k1.elim
  · exact k1.elim
/-! ### properties -/
structure PropC (P : Program) (w : World) (K : PySem.W.Frag) (mg : Str → Option Value) (base : Heap) (c f : Str) (k : Nat) (fn : Fn) : Prop where
  ex : ∃ (C p g : Addr) (fd : FuncData) (ps : List Str), mg c = some (.ref C) ∧ Cls K C ∧ PropOf K C f p g ∧ ps.length = 1 ∧ Binds K fd ps [] ∧ FnOk P w K mg base (L2.CX P w) k g fd ps (spD ⟨K, mg⟩ 1 fn)
def dProp (c : Str) (fn : Fn) (mo : DEx) : DEx := fun env μ => bindR (mo env μ) fun d μ => match fldsOf μ (hold d) with
  | some (c', _) => if c' = c then fCall 1 (valOnly fn) [hold d] μ else none
  | none => none
theorem de_prop {c f : Str} {k : Nat} {fn : Fn} {mo : DEx} (M : PropC X.prog X.w X.K X.mg X.base c f k fn) (hr : Room (k + 1) X.A) (ho : DE X B W o mo) (plain : attributeBase o f X.env (eval o X.env) = eval o X.env := by rfl) : DE X B W (.Attribute o f pos) (dProp c fn mo) := by
  obtain ⟨C, p, g, fd, ps, hm, cl, pr, hn, hb, F⟩ := M.ex
  refine ⟨peImp (pe_prop (E := fun _ _ _ => False) (ds := []) (dvs := []) ho.run cl pr F hr hb .nil (fun pins σ H s er s' I z => by obtain ⟨_, _, _, _, _, _, _, _, _, _, _, _, q⟩ := z; exact q.elim) plain) fun σ H Q ⟨ρ, G, env, μ, R, k⟩ => ?_⟩
  refine rd_then (f := fun d μ => match fldsOf μ (hold d) with
    | some (c', _) => if c' = c then fCall 1 (valOnly fn) [hold d] μ else none
    | none => none) R k fun ρ1 G1 H1 μ1 x d s p R1 hx k1 => ?_
  split at k1
  · rename_i c' fs hf
    split at k1
    · rename_i hc
      subst hc
      obtain ⟨a, C', dx, vf, rfl, hm', ea, rf⟩ := inst_inv R1 hx hf
      have hm' : X.mg c' = some (.ref C') := hm'
      rw [hm] at hm'; cases hm'
      refine ⟨a, dx, vf, rfl, ea, ?_⟩
      unfold fCall at k1
      split at k1
      · rename_i h
        have r := (HReps.cons hx .nil).reps h.2
        refine ⟨rfl, ρ1, G1, [hold d], μ1, R1.gh, R1.st, r, ?_⟩
        unfold valOnly at k1
        cases hq : fn [hold d] μ1 with
        | none => rw [hq] at k1; exact k1.elim
        | some z =>
          obtain ⟨o', μ2⟩ := z
          rw [hq] at k1
          cases o' with
          | exc y => exact k1.elim
          | val d' => exact fun v ρ' G' H' ex gh st ro => k1 ρ' G' H' ex.gg ex.pre (R1.after ex gh st) v (repX_after R1 ro)
      · exact k1.elim
    · exact k1.elim
  · exact k1.elim
end
end Dv

/-! DwZB: comprehensions with two sources. -/
namespace Dv
open PySem PySem.Spec PyProof.Rows L2
section
variable {X : Cx} {B : Bs} {W : WX}
theorem rd_lcIn {J : It} {g : TG} {tg : DTg} {is : List Nat} {tt : DEnv → Mu → Res Bool} {el : DEx} {vs : List Nat} {ρ1 : List Addr} {G1 H1 : Hp} {σ : L2.St} {env : DEnv} {μ1 μf : Mu} {ds l acc0 : List D} {us0 : List V} {Q : Hp → Prop} {T : Tx} {D : Addr}
    (gd : GD T.K T.mg g tg is) (his : ∀ i ∈ is, i ∈ vs) (no : noOwn env vs = true) (R1 : RD T (B.add D us0) ρ1 G1 H1 σ env μ1) (ra0 : Reps T ρ1 G1 us0 acc0) (hz : szl (acc0.length + l.length)) (wk : WalkD T J ρ1 G1 ds) (hr : lcRun tg tt el (wipeD env vs) ds μ1 = some (l, μf))
    (fin : ∀ ρ' G' H' us', Same G1 G' → Pre ρ1 ρ' → RD T (B.add D us') ρ' G' H' σ env μf → Reps T ρ' G' us' (acc0 ++ l) → Q H') :
    ∃ W : Nat → Nat → Hp → Prop, (∃ m, W 0 m H1) ∧ ∀ i m H, W i m H →
      (J.stop i H ∧ Q H) ∨ (J.go i H ∧ ∃ Nx : Hp → Prop, (∀ H', Nx H' → ∃ m', m' < m ∧ W (i + 1) m' H') ∧ ∀ x H', J.yld i H x H' → g x (wipe σ vs) H' fun σ2 H2 => wipe σ2 vs = wipe σ vs ∧ exT T tt σ2 H2 fun b H3 =>
        if b = true then exE T el σ2 H3 fun y H4 => ∃ acc, H4 D = some (.lst acc) ∧ acc.length < sizeLine ∧ Nx (upd H4 D (.lst (acc ++ [y]))) else Nx H3) := by
  refine ⟨fun i m H' => ∃ ρ' G' μ' us acc rest, m = ds.length - i ∧ i ≤ ds.length ∧ Same G1 G' ∧ Pre ρ1 ρ' ∧ RD T (B.add D us) ρ' G' H' σ env μ' ∧ Reps T ρ' G' us acc ∧ lcRun tg tt el (wipeD env vs) (ds.drop i) μ' = some (rest, μf) ∧ acc ++ rest = acc0 ++ l, ⟨ds.length, ρ1, G1, μ1, us0, acc0, l, by omega, Nat.zero_le _, fun _ _ h => h, .refl _, R1, ra0, hr, rfl⟩, ?_⟩
  rintro i m H' ⟨ρ', G', μ', us, acc, rest, rfl, hi, s, p, R, ra, hrun, hl⟩
  by_cases hlt : i < ds.length
  · have hd : ds[i]? = some ds[i] := by simp [hlt]
    obtain ⟨jg, jy⟩ := wk.go i _ hd ρ' G' H' s p R.gh
    refine .inr ⟨jg, fun H'' => ∃ ρ2 G2 μ2 us2 acc2 rest2, Same G1 G2 ∧ Pre ρ1 ρ2 ∧ RD T (B.add D us2) ρ2 G2 H'' σ env μ2 ∧ Reps T ρ2 G2 us2 acc2 ∧ lcRun tg tt el (wipeD env vs) (ds.drop (i + 1)) μ2 = some (rest2, μf) ∧ acc2 ++ rest2 = acc0 ++ l,
      fun H'' ⟨ρ2, G2, μ2, us2, acc2, rest2, h1, h2, h3, h4, h6, h7⟩ => ⟨ds.length - (i + 1), by omega, ρ2, G2, μ2, us2, acc2, rest2, rfl, hlt, h1, h2, h3, h4, h6, h7⟩, fun x H'' hy => ?_⟩
    have item : ∃ G2, Same G' G2 ∧ RD T (B.add D us) ρ' G2 H'' σ env μ' ∧ Rep T ρ' G2 x ds[i] := by
      rcases jy x H'' hy with ⟨e, r⟩ | ⟨q, ws, l', hn, e, ex, ed, r, z⟩
      · exact ⟨G', fun _ _ h => h, by rw [e]; exact R, r⟩
      · have gn := (R.fresh_ hn).1
        exact ⟨_, same_upd gn, by rw [e]; exact R.alloc hn, by rw [ex, ed]; exact rep_tup (.inl upd_same) z (r.mono (same_upd gn) (.refl _))⟩
    obtain ⟨G2, s2, R2, rx⟩ := item
    rw [List.drop_eq_getElem_cons hlt] at hrun
    unfold lcRun at hrun
    split at hrun
    · cases hrun
    · rename_i env1 he1
      have hout := gd.out _ _ _ he1
      refine gd.ok (B.add D us) ρ' G2 H'' (wipe σ vs) (wipeD env vs) μ' x _ env1 _ (R2.wipe vs) rx he1 fun σ2 R3 hw ho => ⟨by rw [hw vs his]; exact wipe_wipe, ?_⟩
      have agE : ∀ j, j ∉ vs → env1[j]? = env[j]? := fun j hj => by rw [hout j fun m => hj (his j m), wipeD_out hj]
      have agS : ∀ j, j ∉ vs → σ2[j]? = σ[j]? := fun j hj => by rw [ho j fun m => hj (his j m), wipe_out hj]
      split at hrun
      · rename_i μ2 ht
        refine ⟨B.add D us, ρ', G2, env1, μ', R3, ?_⟩
        rw [ht]
        intro ρ3 G3 H3 s3 p3 R4
        show (if true = true then _ else _)
        rw [if_pos rfl]
        split at hrun
        · rename_i d' μ3 he
          split at hrun
          · rename_i hb
            split at hrun
            · rename_i l3 μ4 hrest
              cases hrun
              refine ⟨B.add D us, ρ3, G3, env1, μ2, R4, ?_⟩
              rw [he]
              intro ρ4 G4 H4 s4 p4 R5 y hy2
              obtain ⟨G5, s5, R6, hh⟩ := hy2.hold R5
              have ry := hh.rep (hold_nobor hb)
              have S : Same G' G5 := ((s2.trans s3).trans s4).trans s5
              have P : Pre ρ' ρ4 := p3.trans p4
              have R7 : RD T (B.add D us) ρ4 G5 H4 σ env μ3 := R.back R6 S P no agE agS
              have hD4 := R7.delX.2.1
              have hul : us.length = acc.length := ra.length
              have hll := congrArg List.length hl
              simp at hll
              refine ⟨us, hD4, szl_line' (by omega : us.length < acc0.length + l.length) hz, ρ4, G5, μ3, us ++ [y], acc ++ [Dv.hold d'], l3, s.trans S, p.trans P, R7.updX, (ra.mono S P).append (.one ry), hrest, by rw [← hl]; simp⟩
            · cases hrun
          · cases hrun
        · cases hrun
      · rename_i μ2 ht
        refine ⟨B.add D us, ρ', G2, env1, μ', R3, ?_⟩
        rw [ht]
        intro ρ3 G3 H3 s3 p3 R4
        show (if false = true then _ else _)
        rw [if_neg (by decide)]
        have S : Same G' G3 := s2.trans s3
        exact ⟨ρ3, G3, μ2, us, acc, rest, s.trans S, p.trans p3, R.back R4 S p3 no agE agS, ra.mono S p3, hrun, hl⟩
      · cases hrun
  · have e : i = ds.length := by omega
    subst e
    rw [List.drop_length] at hrun
    unfold lcRun at hrun
    cases hrun
    refine .inl ⟨wk.stop ρ' G' H' s p R.gh, ?_⟩
    rw [List.append_nil] at hl
    subst hl
    exact fin ρ' G' H' us s p R ra
def lc2Run (tg : DTg) (tt : DEnv → Mu → Res Bool) (it1 : DEnv → Mu → Res (List D)) (vs1 : List Nat) (tg1 : DTg) (tt1 : DEnv → Mu → Res Bool) (el : DEx) (env : DEnv) : List D → Mu → Option (List D × Mu)
  | [], μ => some ([], μ)
  | d :: ds, μ => match tg env d with
    | none => none
    | some env1 => match tt env1 μ with
      | some (.val true, μ1) => (match it1 env1 μ1 with
        | some (.val ds1, μ2) => if noOwn env1 vs1 then (match lcRun tg1 tt1 el (wipeD env1 vs1) ds1 μ2 with
          | some (l1, μ3) => (match lc2Run tg tt it1 vs1 tg1 tt1 el env ds μ3 with
            | some (l, μ4) => some (l1 ++ l, μ4)
            | none => none)
          | none => none) else none
        | _ => none)
      | some (.val false, μ1) => lc2Run tg tt it1 vs1 tg1 tt1 el env ds μ1
      | _ => none
def lc2Fin (tg : DTg) (tt : DEnv → Mu → Res Bool) (it1 : DEnv → Mu → Res (List D)) (vs1 : List Nat) (tg1 : DTg) (tt1 : DEnv → Mu → Res Bool) (el : DEx) (env : DEnv) (ds : List D) (μ : Mu) : Res D := match lc2Run tg tt it1 vs1 tg1 tt1 el env ds μ with
  | some (l, μ1) => if szl l.length then ret (.new l) μ1 else none
  | none => none
def dLc2 (it : DEnv → Mu → Res (List D)) (own : List Nat) (tg : DTg) (tt : DEnv → Mu → Res Bool) (it1 : DEnv → Mu → Res (List D)) (vs1 : List Nat) (tg1 : DTg) (tt1 : DEnv → Mu → Res Bool) (el : DEx) : DEx := fun env μ =>
  if noOwn env own then bindR (it env μ) (lc2Fin tg tt it1 vs1 tg1 tt1 el (wipeD env own)) else none
def exI (T : Tx) (it : DEnv → Mu → Res (List D)) : TI := fun σ H R => ∃ B', rdI T B' W0 it σ H R
theorem pi_ex {Y : Cx} {t e : Expr} {it : DEnv → Mu → Res (List D)} (h : ∀ B, DI Y B W0 t e it) : PI Y t e (exI (tx Y) it) := ⟨fun pins s σ H Q I ⟨B', q⟩ => (h B').run.run pins s σ H Q I q⟩
theorem rd_lc2 {J : It} {g g1 : TG} {tg tg1 : DTg} {is is1 : List Nat} {tt tt1 : DEnv → Mu → Res Bool} {it1 : DEnv → Mu → Res (List D)} {el : DEx} {vs vs1 : List Nat} {ρ1 : List Addr} {G1 H1 : Hp} {σ : L2.St} {env : DEnv} {μ1 μf : Mu} {ds l : List D} {Q : VK} {T : Tx}
    (gd : GD T.K T.mg g tg is) (his : ∀ i ∈ is, i ∈ vs) (gd1 : GD T.K T.mg g1 tg1 is1) (his1 : ∀ i ∈ is1, i ∈ vs1) (no : noOwn env vs = true) (hz : szl l.length) (R1 : RD T B ρ1 G1 H1 σ env μ1) (wk : WalkD T J ρ1 G1 ds) (hr : lc2Run tg tt it1 vs1 tg1 tt1 el (wipeD env vs) ds μ1 = some (l, μf))
    (fin : ∀ ρ' G' H' v, Same G1 G' → Pre ρ1 ρ' → RD T B ρ' G' H' σ env μf → RepX T B ρ' G' H' σ env v (.new l) → Q v H') (D : Addr) (hD : H1 D = none) :
    ∃ W : Nat → Nat → Hp → Prop, (∃ m, W 0 m (upd H1 D (.lst []))) ∧ ∀ i m H, W i m H →
      (J.stop i H ∧ Q (.ref D) H) ∨ (J.go i H ∧ ∃ Nx : Hp → Prop, (∀ H', Nx H' → ∃ m', m' < m ∧ W (i + 1) m' H') ∧ ∀ x H', J.yld i H x H' → g x (wipe σ vs) H' fun σ2 H2 => wipe σ2 vs = wipe σ vs ∧ exT T tt σ2 H2 fun b H3 =>
        if b = true then exI T it1 σ2 H3 fun J1 H4 => ∃ W1 : Nat → Nat → Hp → Prop, (∃ m, W1 0 m H4) ∧ ∀ j k H, W1 j k H →
          (J1.stop j H ∧ Nx H) ∨ (J1.go j H ∧ ∃ Nx1 : Hp → Prop, (∀ H', Nx1 H' → ∃ k', k' < k ∧ W1 (j + 1) k' H') ∧ ∀ x H', J1.yld j H x H' → g1 x (wipe σ2 vs1) H' fun σ3 H5 => wipe σ3 vs1 = wipe σ2 vs1 ∧ exT T tt1 σ3 H5 fun b H6 =>
            if b = true then exE T el σ3 H6 fun y H7 => ∃ acc, H7 D = some (.lst acc) ∧ acc.length < sizeLine ∧ Nx1 (upd H7 D (.lst (acc ++ [y]))) else Nx1 H6)
        else Nx H3) := by
  obtain ⟨gD, pD, bD⟩ := R1.fresh_ hD
  refine ⟨fun i m H' => ∃ ρ' G' μ' us acc rest, m = ds.length - i ∧ i ≤ ds.length ∧ Same G1 G' ∧ Pre ρ1 ρ' ∧ RD T (B.add D us) ρ' G' H' σ env μ' ∧ Reps T ρ' G' us acc ∧ lc2Run tg tt it1 vs1 tg1 tt1 el (wipeD env vs) (ds.drop i) μ' = some (rest, μf) ∧ acc ++ rest = l, ⟨ds.length, ρ1, G1, μ1, [], [], l, by omega, Nat.zero_le _, fun _ _ h => h, .refl _, ?_, .nil, hr, rfl⟩, ?_⟩
  · refine (R1.allocN hD).addX upd_same gD pD bD (fun i l' e1 e2 => ?_) fun q hq e => ?_
    · obtain ⟨q, us, e3, e4, _⟩ := R1.slot i _ e1
      rw [e2] at e3; cases e3
      rw [hD] at e4; cases e4
    · have e1 := (R1.xo q hq).1
      rw [e, hD] at e1; cases e1
  · rintro i m H' ⟨ρ', G', μ', us, acc, rest, rfl, hi, s, p, R, ra, hrun, hl⟩
    by_cases hlt : i < ds.length
    · have hd : ds[i]? = some ds[i] := by simp [hlt]
      obtain ⟨jg, jy⟩ := wk.go i _ hd ρ' G' H' s p R.gh
      refine .inr ⟨jg, fun H'' => ∃ ρ2 G2 μ2 us2 acc2 rest2, Same G1 G2 ∧ Pre ρ1 ρ2 ∧ RD T (B.add D us2) ρ2 G2 H'' σ env μ2 ∧ Reps T ρ2 G2 us2 acc2 ∧ lc2Run tg tt it1 vs1 tg1 tt1 el (wipeD env vs) (ds.drop (i + 1)) μ2 = some (rest2, μf) ∧ acc2 ++ rest2 = l,
        fun H'' ⟨ρ2, G2, μ2, us2, acc2, rest2, h1, h2, h3, h4, h6, h7⟩ => ⟨ds.length - (i + 1), by omega, ρ2, G2, μ2, us2, acc2, rest2, rfl, hlt, h1, h2, h3, h4, h6, h7⟩, fun x H'' hy => ?_⟩
      have item : ∃ G2, Same G' G2 ∧ RD T (B.add D us) ρ' G2 H'' σ env μ' ∧ Rep T ρ' G2 x ds[i] := by
        rcases jy x H'' hy with ⟨e, r⟩ | ⟨q, ws, l', hn, e, ex, ed, r, z⟩
        · exact ⟨G', fun _ _ h => h, by rw [e]; exact R, r⟩
        · have gn := (R.fresh_ hn).1
          exact ⟨_, same_upd gn, by rw [e]; exact R.alloc hn, by rw [ex, ed]; exact rep_tup (.inl upd_same) z (r.mono (same_upd gn) (.refl _))⟩
      obtain ⟨G2, s2, R2, rx⟩ := item
      rw [List.drop_eq_getElem_cons hlt] at hrun
      unfold lc2Run at hrun
      split at hrun
      · cases hrun
      · rename_i env1 he1
        have hout := gd.out _ _ _ he1
        refine gd.ok (B.add D us) ρ' G2 H'' (wipe σ vs) (wipeD env vs) μ' x _ env1 _ (R2.wipe vs) rx he1 fun σ2 R3 hw ho => ⟨by rw [hw vs his]; exact wipe_wipe, ?_⟩
        have agE : ∀ j, j ∉ vs → env1[j]? = env[j]? := fun j hj => by rw [hout j fun m => hj (his j m), wipeD_out hj]
        have agS : ∀ j, j ∉ vs → σ2[j]? = σ[j]? := fun j hj => by rw [ho j fun m => hj (his j m), wipe_out hj]
        split at hrun
        · rename_i μ2 ht
          refine ⟨B.add D us, ρ', G2, env1, μ', R3, ?_⟩
          rw [ht]
          intro ρ3 G3 H3 s3 p3 R4
          show (if true = true then _ else _)
          rw [if_pos rfl]
          split at hrun
          · rename_i ds1 μ3 he
            split at hrun
            · rename_i hno
              split at hrun
              · rename_i l1 μ4 hin
                split at hrun
                · rename_i l3 μ5 hrest
                  cases hrun
                  refine ⟨B.add D us, ρ3, G3, env1, μ2, R4, ?_⟩
                  rw [he]
                  intro ρ4 G4 H4 s4 p4 R5 J1 wk1
                  have S : Same G' G4 := (s2.trans s3).trans s4
                  have P : Pre ρ' ρ4 := p3.trans p4
                  have hll := congrArg List.length hl
                  simp at hll
                  have hz1 : szl (acc.length + l1.length) := Nat.le_trans (by omega) hz
                  refine rd_lcIn gd1 his1 hno R5 (ra.mono S P) hz1 wk1 hin fun ρ5 G5 H5 us5 s5 p5 R6 ra5 => ?_
                  have R7 := R6.delX.1
                  refine ⟨ρ5, G5, μ4, us5, acc ++ l1, l3, s.trans (S.trans s5), p.trans (P.trans p5), ?_, ra5, hrest, by rw [← hl]; simp⟩
                  obtain ⟨R0, h1, h2, h3, h4, h5, h6⟩ := R.delX
                  obtain ⟨Ra, k1, k2, k3, k4, k5, k6⟩ := R6.delX
                  exact (R0.back Ra (S.trans s5) (P.trans p5) no agE agS).addX k1 k2 k3 k4 h5 k6
                · cases hrun
              · cases hrun
            · cases hrun
          · cases hrun
        · rename_i μ2 ht
          refine ⟨B.add D us, ρ', G2, env1, μ', R3, ?_⟩
          rw [ht]
          intro ρ3 G3 H3 s3 p3 R4
          show (if false = true then _ else _)
          rw [if_neg (by decide)]
          have S : Same G' G3 := s2.trans s3
          exact ⟨ρ3, G3, μ2, us, acc, rest, s.trans S, p.trans p3, R.back R4 S p3 no agE agS, ra.mono S p3, hrun, hl⟩
        · cases hrun
    · have e : i = ds.length := by omega
      subst e
      rw [List.drop_length] at hrun
      unfold lc2Run at hrun
      cases hrun
      refine .inl ⟨wk.stop ρ' G' H' s p R.gh, ?_⟩
      obtain ⟨R0, h1, h2, h3, h4, h5, h6⟩ := R.delX
      rw [List.append_nil] at hl
      subst hl
      exact fin ρ' G' H' (.ref D) s p R0 ⟨D, us, rfl, h1, ra, hz, h2, h3, h4, h5, h6⟩
theorem de_lc2 {elt tg iter tg1 iter1 : Expr} {ifs ifs1 : List Expr} {scope : Scope} {own : List (Str × Nat)} {vs1 : List Nat} {pos : Pos} {it it1 : DEnv → Mu → Res (List D)} {g g1 : TG} {t t1 : DTg} {is is1 : List Nat} {tt tt1 : DEnv → Mu → Res Bool} {el : DEx}
    (hc : X.calm = true) (hN : X.N.Nodup) (hi : DI X B W tg iter it) (ok : BlkOk X.N X.env.scope scope own) (hv : ∀ i ∈ vs1, i ∈ own.map (·.2)) (gd : GD X.K X.mg g t is) (his : ∀ i ∈ is, i ∈ own.map (·.2)) (gd1 : GD X.K X.mg g1 t1 is1) (his1 : ∀ i ∈ is1, i ∈ vs1)
    (hg : ∀ (s : Shared) (H : Hp) (C : Addr) (cl : List (Str × Addr)) (fp : List Addr), PG (X.blk s H scope (compEnvC scope cl C X.env) fp) tg g)
    (ht : ∀ (s : Shared) (H : Hp) (C : Addr) (cl : List (Str × Addr)) (fp : List Addr) (B : Bs), DTs (X.blk s H scope (compEnvC scope cl C X.env) fp) B W0 ifs tt)
    (hi1 : ∀ (s : Shared) (H : Hp) (C : Addr) (cl : List (Str × Addr)) (fp : List Addr) (B : Bs), DI (X.blk s H scope (compEnvC scope cl C X.env) fp) B W0 tg1 iter1 it1)
    (hg1 : ∀ (s : Shared) (H : Hp) (C : Addr) (cl : List (Str × Addr)) (fp : List Addr), PG (X.blk s H scope (compEnvC scope cl C X.env) fp) tg1 g1)
    (ht1 : ∀ (s : Shared) (H : Hp) (C : Addr) (cl : List (Str × Addr)) (fp : List Addr) (B : Bs), DTs (X.blk s H scope (compEnvC scope cl C X.env) fp) B W0 ifs1 tt1)
    (he : ∀ (s : Shared) (H : Hp) (C : Addr) (cl : List (Str × Addr)) (fp : List Addr) (B : Bs), DE (X.blk s H scope (compEnvC scope cl C X.env) fp) B W0 elt el) (hs : ∀ x, foldedSetIterable iter X.env x = pure x := by intro _; rfl) (hs1 : ∀ env x, foldedSetIterable iter1 env x = pure x := by intro _ _; rfl) :
    DE X B W (.ListComp elt [⟨tg, iter, ifs, 0⟩, ⟨tg1, iter1, ifs1, 0⟩] scope pos) (dLc2 it (own.map (·.2)) t tt it1 vs1 t1 tt1 el) := by
  refine ⟨peImp (pe_lc2 (vs1 := vs1) (te := exE (tx X) el) (tt := exT (tx X) tt) (tt1 := exT (tx X) tt1) (wi1 := exI (tx X) it1) hc hN hi.run ok hv hg (fun s H C cl fp => pt_ex (ht s H C cl fp)) (fun s H C cl fp => pi_ex (hi1 s H C cl fp)) hg1 (fun s H C cl fp => pt_ex (ht1 s H C cl fp)) (fun s H C cl fp => pe_ex (he s H C cl fp)) hs hs1) fun σ H Q h => ?_⟩
  obtain ⟨ρ, G, env, μ, R, k⟩ := h
  unfold dLc2 at k
  split at k
  · rename_i no
    refine ⟨ρ, G, env, μ, R, (KE.bind (f := lc2Fin t tt it1 vs1 t1 tt1 el (wipeD env (own.map (·.2)))) k).imp fun ρ1 G1 H1 μ1 ds s p R1 k1 J wk => ?_⟩
    unfold lc2Fin at k1
    split at k1
    · rename_i l μ2 hr
      split at k1
      · rename_i hz
        exact rd_lc2 gd his gd1 his1 no hz R1 wk hr fun ρ' G' H' v s' p' R' hv => k1 ρ' G' H' s' p' R' v hv
      · exact k1.elim
    · exact k1.elim
  · exact k.elim
end
end Dv

/-! DwZC: starred displays, sorted. -/
namespace Dv
open PySem PySem.Spec PyProof.Rows L2
section
variable {X : Cx} {B : Bs} {W : WX} {e : Expr} {es : List Expr} {m : DEx} {n : DEnv → Mu → Res (List D)}
/-! ### *e in a display or an argument list -/
def dStar (m : DEx) (n : DEnv → Mu → Res (List D)) : DEnv → Mu → Res (List D) := fun env μ => bindR (m env μ) fun d μ => match seqD (hold d) with
  | some l => bindR (n env μ) fun ds μ => ret (l ++ ds) μ
  | none => none
theorem hreps_app {T : Tx} {ρ : List Addr} {G : Hp} {σ : L2.St} {env : DEnv} {vs us : List V} {l ds : List D} (a : Reps T ρ G vs l) (h : HReps T ρ G σ env us ds) : HReps T ρ G σ env (vs ++ us) (l ++ ds) := by
  induction l generalizing vs with
  | nil => unfold Reps at a; subst a; exact h
  | cons d l ih => obtain ⟨v, t, rfl, q, rs⟩ := a.inv; exact .cons (.of q) (ih rs)
theorem da_star {p : Pos} (h : DE X B W e m) (g : DA X B W es n) (hs : starEach (.Starred e p :: es) X.env = (true, eval e X.env) :: starEach es X.env := by rfl) : DA X B W (.Starred e p :: es) (dStar m n) := by
  refine ⟨paImp (StX.pa_star h.run g.run hs) fun σ H Q ⟨ρ, G, env, μ, R, k⟩ => ?_⟩
  refine rd_then (f := fun d μ => match seqD (hold d) with
    | some l => bindR (n env μ) fun ds μ => ret (l ++ ds) μ
    | none => none) R k fun ρ1 G1 H1 μ1 x d s p R1 hx k1 => ?_
  split at k1
  · rename_i l e1
    obtain ⟨kk, a, vs, rfl, hq, z, rs⟩ := seqD_inv R1 hx e1
    refine ⟨a, vs, rfl, ?_, ρ1, G1, env, μ1, R1, (KE.bind (f := fun ds μ => ret (l ++ ds) μ) k1).imp fun ρ2 G2 H2 μ2 ds s2 p2 R2 k2 ys hys => ?_⟩
    · have := hq G1 H1 (fun _ _ h => h) R1.gh
      cases kk with
      | false => exact .inl this
      | true => exact .inr this
    · exact k2 ρ2 G2 H2 (fun _ _ h => h) (.refl _) R2 _ (hreps_app (rs.mono s2 p2) hys)
  · exact k1.elim
end
/-! ### sorted -/
def insBy {α : Type} (le : α → α → Bool) (a : α) : List α → List α
  | [] => [a]
  | b :: l => if le a b = true then a :: b :: l else b :: insBy le a l
def sortBy {α : Type} (le : α → α → Bool) : List α → List α
  | [] => []
  | a :: l => insBy le a (sortBy le l)
theorem insBy_mid {α : Type} {le : α → α → Bool} {a : α} : ∀ {l1 l2 : List α}, (∀ b, b ∈ l1 → le a b = false) → (∀ b, b ∈ l2 → le a b = true) → insBy le a (l1 ++ l2) = l1 ++ a :: l2
  | [], [], _, _ => rfl
  | [], b :: l2, _, h => by
    show (if le a b = true then a :: b :: l2 else b :: insBy le a l2) = _
    rw [if_pos (h b List.mem_cons_self)]; rfl
  | b :: l1, l2, h1, h2 => by
    show (if le a b = true then a :: b :: (l1 ++ l2) else b :: insBy le a (l1 ++ l2)) = _
    rw [if_neg (by rw [h1 b List.mem_cons_self]; decide), insBy_mid (fun c hc => h1 c (List.mem_cons_of_mem _ hc)) h2]; rfl
theorem sortBy_eq {α : Type} {le : α → α → Bool} (tr : ∀ a b c, le a b = true → le b c = true → le a c = true) (tot : ∀ a b, (le a b || le b a) = true) : ∀ l : List α, sortBy le l = l.mergeSort le
  | [] => by simp [sortBy]
  | a :: l => by
    obtain ⟨l1, l2, e1, e2, h⟩ := List.mergeSort_cons tr tot a l
    have pw := List.pairwise_mergeSort tr tot (a :: l)
    rw [e1] at pw
    show insBy le a (sortBy le l) = _
    rw [sortBy_eq tr tot l, e2, e1]
    refine insBy_mid (fun b hb => by simpa using h b hb) fun b hb => ?_
    exact (List.pairwise_cons.mp (List.pairwise_append.mp pw).2.1).1 b hb
def leD (a b : D) : Bool := !PySem.W.dataLt (toPy b) (toPy a)
def isIntD : D → Bool
  | .int _ => true
  | _ => false
def isStrD : D → Bool
  | .str _ => true
  | _ => false
def isRowD : D → Bool
  | .tup (x :: r) => (x :: r).all isIntD
  | _ => false
def isTup1 : D → Bool
  | .tup (_ :: _) => true
  | _ => false
def isOth : D → Bool
  | .int _ => true
  | .str _ => true
  | .bl _ => true
  | .lst _ => true
  | _ => false
def alikeD (l : List D) : Bool := l.all isIntD || l.all isStrD || l.all isRowD || l.all fun a => l.all fun b => PySem.W.alike (toPy a) (toPy b)
def sortableD (l : List D) : Bool := l.all isTup1 || l.all isOth
def fSorted : FA
  | [d], μ => match seqL d with
    | some l => if l.all (plainD 50) && alikeD l && sortableD l then ret (.new (sortBy leD l)) μ else none
    | none => none
  | _, _ => none
theorem isIntD_inv {d : D} (h : isIntD d = true) : ∃ i, toPy d = .int i := by
  cases d <;> first | (cases h; done) | skip
  exact ⟨_, by unfold toPy; rfl⟩
theorem isStrD_inv {d : D} (h : isStrD d = true) : ∃ i, toPy d = .str i := by
  cases d <;> first | (cases h; done) | skip
  exact ⟨_, by unfold toPy; rfl⟩
theorem ints_py : ∀ {l : List D}, l.all isIntD = true → ∃ is : List Int, toPys l = is.map .int
  | [], _ => ⟨[], by unfold toPys; rfl⟩
  | d :: l, h => by
    simp only [List.all_cons, Bool.and_eq_true] at h
    obtain ⟨i, e⟩ := isIntD_inv h.1
    obtain ⟨is, e2⟩ := ints_py h.2
    exact ⟨i :: is, by unfold toPys; rw [e, e2]; rfl⟩
theorem isRowD_inv {d : D} (h : isRowD d = true) : ∃ is : List Int, toPy d = .tuple (is.map .int) := by
  cases d <;> first | (cases h; done) | skip
  rename_i l
  cases l with
  | nil => cases h
  | cons x r =>
    obtain ⟨is, e⟩ := ints_py (l := x :: r) h
    exact ⟨is, by unfold toPy; rw [e]⟩
theorem alikeD_ok {l : List D} (h : alikeD l = true) : PySem.W.AllAlike (l.map toPy) := by
  intro d hd d' hd'
  obtain ⟨a, ha, rfl⟩ := List.mem_map.mp hd
  obtain ⟨b, hb, rfl⟩ := List.mem_map.mp hd'
  unfold alikeD at h
  simp only [Bool.or_eq_true] at h
  rcases h with ((h | h) | h) | h
  · obtain ⟨i, e⟩ := isIntD_inv (List.all_eq_true.mp h a ha)
    obtain ⟨j, e'⟩ := isIntD_inv (List.all_eq_true.mp h b hb)
    rw [e, e']; unfold PySem.W.alike; rfl
  · obtain ⟨i, e⟩ := isStrD_inv (List.all_eq_true.mp h a ha)
    obtain ⟨j, e'⟩ := isStrD_inv (List.all_eq_true.mp h b hb)
    rw [e, e']; unfold PySem.W.alike; rfl
  · obtain ⟨i, e⟩ := isRowD_inv (List.all_eq_true.mp h a ha)
    obtain ⟨j, e'⟩ := isRowD_inv (List.all_eq_true.mp h b hb)
    rw [e, e']; unfold PySem.W.alike; exact PySem.W.alike_ints i j
  · exact List.all_eq_true.mp (List.all_eq_true.mp h a ha) b hb
theorem sortableD_ok {l : List D} (h : sortableD l = true) : PySem.W.Sortable (l.map toPy) := by
  unfold sortableD at h
  simp only [Bool.or_eq_true] at h
  rcases h with h | h
  · refine .inl fun d hd => ?_
    obtain ⟨a, ha, rfl⟩ := List.mem_map.mp hd
    have q := List.all_eq_true.mp h a ha
    cases a <;> first | (cases q; done) | skip
    rename_i l
    cases l with
    | nil => cases q
    | cons x r => exact ⟨toPy x, toPys r, by rw [show toPy (.tup (x :: r)) = .tuple (toPys (x :: r)) from by rw [toPy], show toPys (x :: r) = toPy x :: toPys r from by rw [toPys]]⟩
  · refine .inr fun d hd => ?_
    obtain ⟨a, ha, rfl⟩ := List.mem_map.mp hd
    have q := List.all_eq_true.mp h a ha
    cases a <;> first | (cases q; done) | skip
    all_goals (unfold toPy; exact ⟨(by intro z; cases z), (by intro xs z; cases z)⟩)
theorem leD_le (a b : D) : leD a b = PySem.W.dataLe false toPy a b := rfl
theorem leD_tot : ∀ a b, (leD a b || leD b a) = true := fun a b => by
  unfold leD PySem.W.dataLt
  cases h1 : PyProof.Rows.lexLt PyProof.Rows.itemOrd (PySem.W.keyToks (toPy b)) (PySem.W.keyToks (toPy a)) with
  | false => rfl
  | true =>
    cases h2 : PyProof.Rows.lexLt PyProof.Rows.itemOrd (PySem.W.keyToks (toPy a)) (PySem.W.keyToks (toPy b)) with
    | false => rfl
    | true =>
      have := PyProof.Rows.lex_trans (O := PyProof.Rows.itemOrd) _ _ _ h1 h2
      rw [PyProof.Rows.lex_irrefl] at this
      cases this
theorem leD_tr : ∀ a b c, leD a b = true → leD b c = true → leD a c = true := fun a b c h1 h2 => by
  unfold leD PySem.W.dataLt at *
  simp only [Bool.not_eq_true'] at *
  cases h : PyProof.Rows.lexLt PyProof.Rows.itemOrd (PySem.W.keyToks (toPy c)) (PySem.W.keyToks (toPy a)) with
  | false => rfl
  | true =>
    rcases PyProof.Rows.lex_negTrans (O := PyProof.Rows.itemOrd) _ (PySem.W.keyToks (toPy b)) _ h with q | q
    · rw [h2] at q; cases q
    · rw [h1] at q; cases q
/-- sorted(xs), xs a list of data that can be compared -/
def rSortX (K : PySem.W.Frag) : List V → Hp → VK → Prop := fun vs H Q => ∃ (a : Addr) (ps : List (V × PyData)), vs = [V.ref a] ∧ SqL K H a (ps.map (·.1)) ∧ (∀ p ∈ ps, Dp K H p.1 p.2) ∧ PySem.W.AllAlike (ps.map (·.2)) ∧ PySem.W.Sortable (ps.map (·.2)) ∧
  (∀ p ∈ ps, p.2.depth ≤ 50) ∧ ∀ q, H q = none → Q (.ref q) (upd H q (.lst ((ps.mergeSort (PySem.W.dataLe false (·.2))).map (·.1))))
section
variable {X : Cx}
theorem each_of_vals {ps : List (V × PyData)} : ∀ {its : List Value}, Vals (ps.map (·.1)) its → PySem.W.EachIs (fun v (p : V × PyData) => RelV p.1 v) its ps := by
  induction ps with
  | nil => intro its h; cases h; exact .nil
  | cons p ps ih => intro its h; cases h with | cons a b => exact .cons a (ih b)
theorem vals_of_each {ps : List (V × PyData)} : ∀ {its : List Value}, PySem.W.EachIs (fun v (p : V × PyData) => RelV p.1 v) its ps → Vals (ps.map (·.1)) its := by
  induction ps with
  | nil => intro its h; cases h; exact .nil
  | cons p ps ih => intro its h; cases h with | cons a b => exact .cons a (ih b)
theorem cr_sortX (hu : X.A.units + 64 < cLine) : CallR X (.builtin "sorted") (rSortX X.K) := by
  intro pins s σ H vs us Q I r h
  obtain ⟨a, ps, rfl, hs, hd, hal, hk, hdp, q⟩ := h
  obtain ⟨its, rv, hl, hz⟩ := I.list hs
  rw [Vals.ref1 r]
  have e := each_of_vals rv
  have hlen : ps.length ≤ sizeLine := by simpa using hz
  refine PySem.W.sorted_data (enc := fun p : V × PyData => p.2) hl.isList e ((PySem.W.each_mem e).mono fun v p ⟨hv, hm⟩ => Dp.reads I p.2 p.1 v (hd p hm) hv) hal hk hlen (fun p hp => by have := hdp p hp; omega) fun out ho he => ?_
  obtain ⟨ep, he'⟩ := PyProof.Rows.sortedAll_at s.heap its out.toArray
  have hv := vals_of_each he
  exact ⟨.ref _, upd H (s.heap.objs.size + 1) (.lst _), I.laid (t' := s.toks) (fun _ _ => PyProof.Rows.sortedAll_old) (Nat.le_succ _) ⟨by simpa using hlen, out, ep, hv, he'⟩, rfl, q _ (I.hok.fresh (Nat.le_succ _))⟩
theorem reps_zip {T : Tx} {ρ : List Addr} {G : Hp} : ∀ {vs : List V} {l : List D}, Reps T ρ G vs l → ∃ qs : List (V × D), qs.map (·.1) = vs ∧ qs.map (·.2) = l ∧ ∀ q ∈ qs, Rep T ρ G q.1 q.2
  | vs, [], h => by unfold Reps at h; subst h; exact ⟨[], rfl, rfl, fun q hq => absurd hq (by simp)⟩
  | vs, d :: l, h => by
    obtain ⟨v, t, rfl, q, rs⟩ := h.inv
    obtain ⟨qs, e1, e2, hq⟩ := reps_zip rs
    exact ⟨(v, d) :: qs, by simp [e1], by simp [e2], fun x hx => (List.mem_cons.mp hx).elim (fun e => by subst e; exact q) (hq x)⟩
theorem zip_reps {T : Tx} {ρ : List Addr} {G : Hp} : ∀ {qs : List (V × D)}, (∀ q ∈ qs, Rep T ρ G q.1 q.2) → Reps T ρ G (qs.map (·.1)) (qs.map (·.2))
  | [], _ => .nil
  | q :: qs, h => .cons (h q List.mem_cons_self) (zip_reps fun x hx => h x (List.mem_cons_of_mem _ hx))
theorem ca_sorted : CallD (tx X) (rSortX X.K) fSorted := by
  intro B W σ env ρ G H μ vs ds Q R h k
  unfold fSorted at k
  split at k
  · obtain ⟨v, rfl, hv⟩ := hreps1 h
    split at k
    · rename_i l e
      split at k
      · rename_i hc
        simp only [Bool.and_eq_true] at hc
        obtain ⟨⟨hp, ha⟩, hs⟩ := hc
        obtain ⟨a, us, rfl, q, z, r⟩ := seqL_inv R hv e
        obtain ⟨qs, e1, e2, hq⟩ := reps_zip r
        subst e1
        subst e2
        have pl : ∀ p ∈ qs, plainD 50 p.2 = true := fun p hm => List.all_eq_true.mp hp _ (List.mem_map.mpr ⟨p, hm, rfl⟩)
        refine ⟨a, qs.map fun p => (p.1, toPy p.2), rfl, ?_, ?_, ?_, ?_, ?_, fun p hn => ?_⟩
        · rw [List.map_map]; exact .of q
        · intro p hm
          obtain ⟨y, hy, rfl⟩ := List.mem_map.mp hm
          exact dp_of R.gh rfl (pl y hy) (hq y hy)
        · rw [List.map_map]
          have := alikeD_ok ha
          rw [List.map_map] at this; exact this
        · rw [List.map_map]
          have := sortableD_ok hs
          rw [List.map_map] at this; exact this
        · intro p hm
          obtain ⟨y, hy, rfl⟩ := List.mem_map.mp hm
          exact (lay_of (pl y hy)).2
        · have m1 : (qs.mergeSort fun a b => leD a.2 b.2).map (fun p => (p.1, toPy p.2)) = (qs.map fun p => (p.1, toPy p.2)).mergeSort (PySem.W.dataLe false (·.2)) :=
            List.map_mergeSort fun a _ b _ => rfl
          have m2 : (qs.mergeSort fun a b => leD a.2 b.2).map (·.2) = (qs.map (·.2)).mergeSort leD := List.map_mergeSort fun a _ b _ => rfl
          rw [← m1, List.map_map]
          have rr := zip_reps (qs := qs.mergeSort fun a b => leD a.2 b.2) fun y hy => hq y ((List.mergeSort_perm _ _).mem_iff.mp hy)
          rw [m2, ← sortBy_eq leD_tr leD_tot] at rr
          have zz : szl (sortBy leD (qs.map (·.2))).length := by
            rw [sortBy_eq leD_tr leD_tot, List.length_mergeSort]; exact z
          exact k.newL R rr zz p hn
      · exact k.elim
    · exact k.elim
  · exact k.elim
end
end Dv

/-! DwZD: a lambda as a value in its maker's frame. -/
namespace Dv
open PySem PySem.Spec PyProof.Rows L2
section
variable {X : Cx} {pins : List (Addr × Obj)} {σ : L2.St} {H : Hp} {s : Shared} {c P : Addr} {pos : Pos} {E Q : Value → Shared → Prop} {ps : Array Value} {L : LamI} {dV : Value}
abbrev cloX (X : Cx) (L : LamI) : List (Str × Addr) := cloFrom X.env.cells L.scope.names []
theorem lamO_ok {P : Program} {w : World} {H : Hp} {h : Heap} {f c' : Addr} {dV doc pm ctv : Value} {cl : List (Str × Addr)} {L : LamI} (e : h.get? f = some (PySem.W.kdv_obj "<lambda>" L.q L.params (.expr L.body) L.scope cl dV doc pm c' ctv)) : ObjOk P w H h f (LamO f c' dV cl L) :=
  ⟨⟨doc, pm, ctv, e⟩, ⟨_, e⟩, fun h1 h2 ⟨d, p, t, z⟩ st => ⟨d, p, t, st _ z⟩⟩
theorem lam_val (I : Inv X pins σ H s) (TB : LamX.TabB X.base X.mg c P) (own : X.env.code = .ref c) (t : TabAt H P L.q ps) (eq : lamQ X = L.q) (clo : ∀ y ∈ L.scope.names, y.2 = .free → ∃ a, X.env.cells.lookup y.1 = some a)
    (hit : ∀ (f c' : Addr) (s' : Shared), codeAmong pos ps.toList = some (.ref c') → H f = none → Inv X pins σ (upd H f (LamO f c' dV (cloX X L) L)) s' → Q (.ref f) s')
    (new : ∀ (f c' : Addr) (s' : Shared), H c' = none → H f = none → f ≠ c' → f ≠ P → Inv X pins σ (upd (upd (upd H P (.tbl (ps ++ triple pos c'))) c' (LamX.CodeO c' L.q)) f (LamO f c' dV (cloX X L) L)) s' → Q (.ref f) s') :
    wpAny (model X.prog X.w) X.A (makeTail "<lambda>" (X.env.qual ++ "<lambda>") L.params (.expr L.body) L.scope X.env dV .none none pos pos.line) Q E s := by
  have eq' : X.env.qual ++ "<lambda>" = L.q := eq
  rw [eq']
  have onHeap := I.hok P _ t.at_
  have gl := I.mod.glob.keeps I.bk
  have cd := TB.code.keeps I.bk
  have bm := TB.bm.keeps I.bk
  match hc : codeAmong pos ps.toList with
  | some u =>
    obtain ⟨c', rfl, known⟩ := t.code pos u hc
    exact PySem.W.kdv_makeTailHit (closure_ok clo) I.ok.glob gl own cd onHeap t.tr hc bm fun ctv doc h' tk old len =>
      hit h'.objs.size c' _ hc (I.hok.fresh len) (I.laid (fun b o e => Heap.get?_push_of_some _ (old b o e)) len (lamO_ok (Heap.get?_push_size _ rfl)))
  | none =>
    refine PySem.W.kdv_makeTail (closure_ok clo) I.ok.glob gl own cd onHeap t.tr hc TB.gP bm fun c' ctv doc h' tk old ge lt rec tab => ?_
    obtain ⟨_, oc, vs, tk2, e2, at2, dt, nm⟩ := rec
    cases e2
    have len : s.heap.objs.size ≤ h'.objs.size := Nat.le_of_lt (Nat.lt_of_le_of_lt ge lt)
    have fresh : H h'.objs.size = none := I.hok.fresh len
    have J := LamX.inv_table (more := triple pos c') (t' := tk) I t.at_ old tab ge ⟨oc, vs, tk2, at2, dt, nm⟩
    exact new h'.objs.size c' _ (I.hok.fresh ge) fresh (Nat.ne_of_gt lt) (ne_of_none t.at_ fresh).symm (J.laid (t' := tk) (fun b o e => Heap.get?_push_of_some _ e) (Nat.le_refl _) (lamO_ok (Heap.get?_push_size _ rfl)))
end
/-- every name that the lambda catches is a cell of its maker -/
structure LamF (sc scope : Scope) : Prop where
  free : ∀ y ∈ scope.names, y.2 = .free → sc.names.lookup y.1 = some .cell ∨ sc.names.lookup y.1 = some .free
def lamFB (sc scope : Scope) : Bool := scope.names.all fun y => !decide (y.2 = .free) || (decide (sc.names.lookup y.1 = some .cell) || decide (sc.names.lookup y.1 = some .free))
theorem lamF_by {sc scope : Scope} (h : lamFB sc scope = true) : LamF sc scope := ⟨fun y hy e => by
  have q := List.all_eq_true.mp h y hy
  simp only [Bool.or_eq_true, Bool.not_eq_true', decide_eq_true_eq, decide_eq_false_iff_not] at q
  rcases q with z | z
  · exact absurd e z
  · exact z⟩
theorem LamF.has {X : Cx} {scope : Scope} (L : LamF X.env.scope scope) (ok : X.Ok) {y : Str × NameKind} (hy : y ∈ scope.names) (e : y.2 = .free) : ∃ c, X.env.cells.lookup y.1 = some c :=
  ok.has _ (L.free y hy e)
/-! ### at the level of deep values -/
/-- k: where the maker's table stands; cells: the maker's -/
def dLamV (k : Nat) (pl : Str × Option Str) (cl : List (Str × Addr)) (L : LamI) : DEx := fun _ μ => match μ[k]? with
  | some (.tab p' q') => if p' = pl ∧ q' = L.q then ret (.lam cl L) μ else none
  | _ => none
section
variable {X : Cx} {B : Bs} {W : WX} {k : Nat} {pl : Str × Option Str} {L : LamI} {pos : Pos}
/-- the end of both: the defaults stand, the function is made -/
theorem lam_rd {pins : List (Addr × Obj)} {σ : L2.St} {H : Hp} {s : Shared} {ρ : List Addr} {G : Hp} {env : DEnv} {μ : Mu} {dV : Value} {Q : VK} (I : Inv X pins σ H s) (R : RD (tx X) B ρ G H σ env μ)
    (hm : μ[k]? = some (.tab pl L.q)) (TB : LamX.TabB X.base X.mg (He.cT X.K pl).1 (He.cT X.K pl).2) (own : X.env.code = .ref (He.cT X.K pl).1) (eq : lamQ X = L.q) (clo : ∀ y ∈ L.scope.names, y.2 = .free → ∃ a, X.env.cells.lookup y.1 = some a)
    (dfl : (L.dfl = false ∧ dV = .none) ∨ (L.dfl = true ∧ ∃ t, dV = .ref t ∧ G t = some (.tup [.int 0])))
    (fin : ∀ (G' H' : Hp) (v : V), Same G G' → RD (tx X) B ρ G' H' σ env μ → Rep (tx X) ρ G' v (.lam (cloX X L) L) → Q v H') :
    wpAny (model X.prog X.w) X.A (makeTail "<lambda>" (X.env.qual ++ "<lambda>") L.params (.expr L.body) L.scope X.env dV .none none pos pos.line) (fun u s2 => ∃ v H2, Inv X pins σ H2 s2 ∧ L2.RelV v u ∧ Q v H2) X.xe s := by
  have hP : ρ[k]? = some (He.cT X.K pl).2 := by
    obtain ⟨a, ea, r⟩ := R.st.at_ k _ hm
    rw [ea, r.1]
  obtain ⟨ps, tab, old⟩ := R.tabAt hP hm
  refine lam_val I TB own tab eq clo (fun f c' s' hc hf J => ?_) fun f c' s' hc hf n1 n2 J => ?_
  · obtain ⟨a, ea, ga⟩ := old pos _ hc
    cases ea
    have s1 := same_upd (o := LamO f c' dV (cloX X L) L) (R.fresh_ hf).1
    refine ⟨.ref f, _, J, rfl, fin _ _ _ s1 (R.alloc hf) ?_⟩
    unfold Rep
    exact ⟨f, rfl, ⟨c', dV, upd_same, s1 _ _ ga, dfl.elim .inl fun ⟨a, t, b, d⟩ => .inr ⟨a, t, b, s1 _ _ d⟩⟩⟩
  · have R1 := R.lam (pos := pos) hP hm tab old hc
    have gc := (R.fresh_ hc).1
    have s0 := same_upd (o := LamX.CodeO c' L.q) gc
    have hf1 : upd (upd H (He.cT X.K pl).2 (.tbl (ps ++ triple pos c'))) c' (LamX.CodeO c' L.q) f = none := by rw [upd_ne n1, upd_ne n2]; exact hf
    have s1 := same_upd (o := LamO f c' dV (cloX X L) L) (R1.fresh_ hf1).1
    refine ⟨.ref f, _, J, rfl, fin _ _ _ (s0.trans s1) (R1.alloc hf1) ?_⟩
    unfold Rep
    exact ⟨f, rfl, ⟨c', dV, upd_same, s1 _ _ upd_same, dfl.elim .inl fun ⟨a, t, b, d⟩ => .inr ⟨a, t, b, s1 _ _ (s0 _ _ d)⟩⟩⟩
theorem de_lamV {cl : List (Str × Addr)} (TB : LamX.TabB X.base X.mg (He.cT X.K pl).1 (He.cT X.K pl).2) (own : X.env.code = .ref (He.cT X.K pl).1) (LS : LamF X.env.scope L.scope) (nod : defaultsOf L.params X.env = ([], [])) (hd : L.dfl = false) (eq : lamQ X = L.q) (ecl : cl = cloX X L) :
    DE X B W (.Lambda L.params L.body L.scope pos) (dLamV k pl cl L) := by
  subst ecl
  refine ⟨⟨fun pins s σ H Q I ⟨ρ, G, env, μ, R, kk⟩ => ?_⟩⟩
  unfold dLamV at kk
  split at kk
  · rename_i p' q' hm
    split at kk
    · rename_i e
      obtain ⟨rfl, rfl⟩ := e
      refine PySem.W.kla_eval nod ?_
      rw [makeFunction_eq]
      simp only [List.zip_nil_right, List.filterMap_nil, List.isEmpty_nil, if_true, pure_bind]
      exact lam_rd I R hm TB own eq (fun _ hy e => LS.has I.ok hy e) (.inl ⟨hd, rfl⟩) fun G' H' v s1 R1 r => kk ρ G' H' s1 (.refl _) R1 v (.ofR r)
    · exact kk.elim
  · exact kk.elim
theorem de_lamV1 {cl : List (Str × Addr)} {j1 : Nat} {p1 : Pos} (TB : LamX.TabB X.base X.mg (He.cT X.K pl).1 (He.cT X.K pl).2) (own : X.env.code = .ref (He.cT X.K pl).1) (LS : LamF X.env.scope L.scope) (hds : L.params.defaults = [.Constant (.int 0) j1 p1]) (hk0 : L.params.kw_defaults = []) (hd : L.dfl = true) (eq : lamQ X = L.q) (ecl : cl = cloX X L) :
    DE X B W (.Lambda L.params L.body L.scope pos) (dLamV k pl cl L) := by
  subst ecl
  refine ⟨⟨fun pins s σ H Q I ⟨ρ, G, env, μ, R, kk⟩ => ?_⟩⟩
  unfold dLamV at kk
  split at kk
  · rename_i p' q' hm
    split at kk
    · rename_i e
      obtain ⟨rfl, rfl⟩ := e
      refine PySem.W.kdv_lam (by rw [hds]; rfl) hk0 ?_
      rw [hds]
      refine PySem.W.kdv_all1 (wpAny_mono ((pe_int (X := X) (i := 0) (j := j1) (pos := p1)).run pins s σ H (fun v H' => v = .int 0 ∧ H' = H) I ⟨rfl, rfl⟩) ?_ fun _ _ z => z)
      rintro u s1 ⟨v, H1, I1, r1, e1, e2⟩
      rw [e2] at I1
      rw [e1] at r1
      refine PySem.W.kdv_all0 ?_
      rw [makeFunction_eq]
      simp only [List.zip_nil_right, List.filterMap_nil, List.isEmpty_nil, if_true, pure_bind, List.isEmpty_cons, Bool.false_eq_true, if_false]
      refine wpAny_bind (wpAny_newTextTuple ?_)
      have hn : H s1.heap.objs.size = none := I1.hok.fresh (Nat.le_refl _)
      have J : Inv X pins σ (upd H s1.heap.objs.size (.tup [.int 0])) { s1 with heap := s1.heap.push { cls := .type "tuple", data := .seq [u].toArray } } :=
        I1.laid (t' := s1.toks) (fun b o e => Heap.get?_push_of_some _ e) (Nat.le_refl _) ⟨by decide, [u], .cons r1 .nil, _, Heap.get?_push_size _ rfl, rfl, _, rfl⟩
      exact lam_rd J (R.alloc hn) hm TB own eq (fun _ hy e => LS.has I.ok hy e) (.inr ⟨hd, _, rfl, upd_same⟩) fun G' H' v s2 R1 r => kk ρ G' H' ((same_upd (R.fresh_ hn).1).trans s2) (.refl _) R1 v (.ofR r)
    · exact kk.elim
  · exact kk.elim
end
end Dv

/-! DwZE: the cells of a waiting frame stand still: tracked for a call, untracked while a closure of theirs runs. -/
namespace Dv
open PySem PySem.Spec PyProof.Rows L2
def isCel (cl : List (Str × Addr)) (b : Addr) : Prop := ∃ x, cl.lookup x = some b
section
open Classical
noncomputable def frzH (cl : List (Str × Addr)) (h : Heap) (H : Hp) : Hp := fun b => if isCel cl b then (h.get? b).map celO else H b
noncomputable def unH (cl : List (Str × Addr)) (H : Hp) : Hp := fun b => if isCel cl b then none else H b
theorem frz_cel {cl : List (Str × Addr)} {h : Heap} {H : Hp} {b : Addr} {o : Obj} (c : isCel cl b) (e : h.get? b = some o) : frzH cl h H b = some (celO o) := by
  unfold frzH; rw [if_pos c, e]; rfl
theorem frz_out {cl : List (Str × Addr)} {h : Heap} {H : Hp} {b : Addr} (c : ¬ isCel cl b) : frzH cl h H b = H b := by
  unfold frzH; rw [if_neg c]
theorem un_cel {cl : List (Str × Addr)} {H : Hp} {b : Addr} (c : isCel cl b) : unH cl H b = none := by
  unfold unH; rw [if_pos c]
theorem un_out {cl : List (Str × Addr)} {H : Hp} {b : Addr} (c : ¬ isCel cl b) : unH cl H b = H b := by
  unfold unH; rw [if_neg c]
end
/-- the cells stand, untracked -/
structure CelFree (cl : List (Str × Addr)) (h : Heap) (H : Hp) : Prop where
  none_ : ∀ a, isCel cl a → H a = none
  cell : ∀ a, isCel cl a → ∃ v, h.IsCell a v
/-- .. tracked -/
structure CelSet (cl : List (Str × Addr)) (H : Hp) : Prop where
  at_ : ∀ a, isCel cl a → ∃ o v, H a = some (celO o) ∧ o.data = .cell v
section
variable {P : Program} {w : World} {K : PySem.W.Frag} {mg : Str → Option Value} {base : Heap} {A : Around} {outer : List Env} {s s2 : Shared} {H H' : Hp} {cl : List (Str × Addr)} {h h2 : Heap} {fs : List Addr} {u : Value} {Q Q' : VK}
theorem CelFree.out (C : CelFree cl h H) {a : Addr} {o : HO} (e : H a = some o) : ¬ isCel cl a := fun c => by
  rw [C.none_ a c] at e; cases e
theorem CelSet.out (C : CelSet cl H) {a : Addr} {o : HO} (e : H a = some o) (n : ∀ x, o ≠ celO x) : ¬ isCel cl a := fun c => by
  obtain ⟨x, v, e2, _⟩ := C.at_ a c
  rw [e] at e2; cases e2; exact n x rfl
theorem CelSet.outN (C : CelSet cl H) {a : Addr} (e : H a = none) : ¬ isCel cl a := fun c => by
  obtain ⟨x, v, e2, _⟩ := C.at_ a c
  rw [e] at e2; cases e2
theorem hok_frz (C : CelFree cl h H) (x : HOk P w H h) : HOk P w (frzH cl h H) h := fun b o e => by
  by_cases c : isCel cl b
  · obtain ⟨v, ob, e1, e2⟩ := C.cell b c
    rw [frz_cel c e1] at e
    cases e
    exact ⟨e1, trivial, ⟨ob, e1⟩, fun _ _ _ _ => trivial⟩
  · rw [frz_out c] at e
    exact (x b o e).stay (fun b u _ q => q) (fun b q => by rw [frz_out (C.out q)]; exact q) fun b xs q => by rw [frz_out (C.out q)]; exact q
theorem hok_un (C : CelSet cl H) (x : HOk P w H h) : HOk P w (unH cl H) h := fun b o e => by
  by_cases c : isCel cl b
  · rw [un_cel c] at e; cases e
  · rw [un_out c] at e
    exact (x b o e).stay (fun b u _ q => q) (fun b q => by rw [un_out (C.out q fun _ => by intro z; cases z)]; exact q) fun b xs q => by rw [un_out (C.out q fun _ => by intro z; cases z)]; exact q
theorem env0_frz (e0 : Env0 P w K mg base A outer s H) (C : CelFree cl s.heap H) (nb : ∀ a, isCel cl a → base.get? a = none) (nf : ∀ a, isCel cl a → a ∉ frs outer) : Env0 P w K mg base A outer s (frzH cl s.heap H) :=
  ⟨e0.frames, e0.mod, fun b o e => ⟨(e0.bs b o e).1, by rw [frz_out (fun c => by rw [nb b c] at e; cases e)]; exact (e0.bs b o e).2⟩, e0.bsz, e0.funs, fun b m => by rw [frz_out (fun c => nf b c m)]; exact e0.frf b m, hok_frz C e0.hok, e0.bare⟩
theorem env0_un (e0 : Env0 P w K mg base A outer s H) (C : CelSet cl H) : Env0 P w K mg base A outer s (unH cl H) :=
  ⟨e0.frames, e0.mod, fun b o e => ⟨(e0.bs b o e).1, by rw [un_out (C.outN (e0.bs b o e).2)]; exact (e0.bs b o e).2⟩, e0.bsz, e0.funs, fun b m => by rw [un_out (C.outN (e0.frf b m))]; exact e0.frf b m, hok_un C e0.hok, e0.bare⟩
/-- behind a call that ran with the cells tracked -/
theorem un_frz (C : CelFree cl h H) (nf : ∀ a, isCel cl a → a ∉ fs) (x : Un fs [] (frzH cl h H) H' h h2) (ok : HOk P w H' h2) : Un fs [] H (unH cl H') h h2 where
  keep := fun b o e n hb hx => by
    by_cases c : isCel cl b
    · have := x.frzs b o _ (show frzH cl h H b = some (.frz o _) from frz_cel c e)
      exact (ok b _ this).1
    · exact x.keep b o e (by rw [frz_out c]; exact n) hb hx
  slot := fun b o e n hb hx => x.slot b o e (by rw [frz_out fun c => nf b c hb]; exact n) hb hx
  free := fun b o e n hx => by
    by_cases c : isCel cl b
    · exact un_cel c
    · rw [un_out c]; exact x.free b o e (by rw [frz_out c]; exact n) hx
  there := fun b o e hx => x.there b o e hx
  tups := fun b xs e => by rw [un_out (C.out e)]; exact x.tups b xs (by rw [frz_out (C.out e)]; exact e)
  frzs := fun b o u e => by rw [un_out (C.out e)]; exact x.frzs b o u (by rw [frz_out (C.out e)]; exact e)
  tbls := fun b ps e => by rw [un_out (C.out e)]; exact x.tbls b ps (by rw [frz_out (C.out e)]; exact e)
theorem celSet_after (C : CelFree cl h H) (x : Un fs [] (frzH cl h H) H' h h2) : CelSet cl H' := ⟨fun a c => by
  obtain ⟨v, o, e1, e2⟩ := C.cell a c
  exact ⟨o, v, x.frzs a o _ (show frzH cl h H a = some (.frz o _) from frz_cel c e1), e2⟩⟩
theorem ce_frz (C : CelFree cl s.heap H) (nf : ∀ a, isCel cl a → a ∉ frs outer) (x : CE outer P w (frzH cl s.heap H) s Q' u s2) (q : ∀ v H', CelSet cl H' → Q' v H' → Q v (unH cl H')) : CE outer P w H s Q u s2 := by
  obtain ⟨v, H', os, bare, un, ok, r, h⟩ := x
  have cs := celSet_after C un
  exact ⟨v, unH cl H', os, bare, un_frz C nf un ok, hok_un cs ok, r, q v H' cs h⟩
/-- behind a call that ran with the cells untracked -/
theorem cel_obj (C : CelSet cl H) (ok : HOk P w H h) {a : Addr} (c : isCel cl a) : ∃ o v, H a = some (celO o) ∧ o.data = .cell v ∧ h.get? a = some o := by
  obtain ⟨o, v, e1, e2⟩ := C.at_ a c
  exact ⟨o, v, e1, e2, (ok a _ e1).1⟩
theorem un_back (C : CelSet cl H) (ok0 : HOk P w H h) (x : Un fs [] (unH cl H) H' h h2) : Un fs [] H (frzH cl h H') h h2 where
  keep := fun b o e n hb hx => x.keep b o e (by rw [un_out (C.outN n)]; exact n) hb hx
  slot := fun b o e n hb hx => x.slot b o e (by rw [un_out (C.outN n)]; exact n) hb hx
  free := fun b o e n hx => by rw [frz_out (C.outN n)]; exact x.free b o e (by rw [un_out (C.outN n)]; exact n) hx
  there := fun b o e hx => x.there b o e hx
  tups := fun b xs e => by
    have c := C.out e fun _ => by intro z; cases z
    rw [frz_out c]; exact x.tups b xs (by rw [un_out c]; exact e)
  frzs := fun b o u e => by
    by_cases c : isCel cl b
    · obtain ⟨o', v, e1, _, e3⟩ := cel_obj C ok0 c
      rw [e1] at e
      cases e
      exact frz_cel c e3
    · rw [frz_out c]; exact x.frzs b o u (by rw [un_out c]; exact e)
  tbls := fun b ps e => by
    have c := C.out e fun _ => by intro z; cases z
    rw [frz_out c]; exact x.tbls b ps (by rw [un_out c]; exact e)
theorem hok_back (C : CelSet cl H) (ok0 : HOk P w H h) (nf : ∀ a, isCel cl a → a ∉ fs) (x : Un fs [] (unH cl H) H' h h2) (ok : HOk P w H' h2) : HOk P w (frzH cl h H') h2 := fun b o e => by
  have free : ∀ {a : Addr}, isCel cl a → H' a = none ∧ ∃ o, h.get? a = some o ∧ h2.get? a = some o := fun {a} c => by
    obtain ⟨o', v, _, _, e3⟩ := cel_obj C ok0 c
    exact ⟨x.free a o' e3 (un_cel c) (by simp), o', e3, x.keep a o' e3 (un_cel c) (nf a c) (by simp)⟩
  have keep : ∀ {a : Addr} {o : HO}, H' a = some o → frzH cl h H' a = some o := fun {a o} q => by
    rw [frz_out fun c => by rw [(free c).1] at q; cases q]; exact q
  by_cases c : isCel cl b
  · obtain ⟨_, o', e1, e2⟩ := free c
    rw [frz_cel c e1] at e
    cases e
    exact ⟨e2, trivial, ⟨o', e2⟩, fun _ _ _ _ => trivial⟩
  · rw [frz_out c] at e
    exact (ok b o e).stay (fun b u _ q => q) (fun b q => keep q) fun b xs q => keep q
theorem ce_back (C : CelSet cl H) (e0 : Env0 P w K mg base A outer s H) (x : CE outer P w (unH cl H) s Q' u s2) (q : ∀ v H', (∀ a, isCel cl a → H' a = none) → Q' v H' → Q v (frzH cl s.heap H')) : CE outer P w H s Q u s2 := by
  obtain ⟨v, H', os, bare, un, ok, r, h⟩ := x
  have nf : ∀ a, isCel cl a → a ∉ frs outer := fun a c m => C.outN (e0.frf a m) c
  refine ⟨v, frzH cl s.heap H', os, bare, un_back C e0.hok un, hok_back C e0.hok nf un ok, r, q v H' (fun a c => ?_) h⟩
  obtain ⟨o', v, _, _, e3⟩ := cel_obj C e0.hok c
  exact un.free a o' e3 (un_cel c) (by simp)
end
end Dv

/-! DwZF: the same of deep values and of the store. -/
namespace Dv
open PySem PySem.Spec PyProof.Rows L2
mutual
def noClo : D → Bool
  | .clo _ _ => false
  | .tup l => noClos l
  | .lst l => noClos l
  | .scr l => noClos l
  | .ins _ fs => noCloF fs
  | .exn _ fs => noCloF fs
  | .new l => noClos l
  | .bor l => noClos l
  | _ => true
def noClos : List D → Bool
  | [] => true
  | d :: ds => noClo d && noClos ds
def noCloF : List (Str × D) → Bool
  | [] => true
  | (_, d) :: ds => noClo d && noCloF ds
end
section
variable {T : Tx} {ρ : List Addr} {G : Hp} {cl : List (Str × Addr)}
theorem un_at (C : CelSet cl G) {a : Addr} {o : HO} (e : G a = some o) (n : ∀ x, o ≠ celO x) : unH cl G a = some o := by
  rw [un_out (C.out e n)]; exact e
mutual
theorem Rep.un (C : CelSet cl G) : ∀ {d : D} {v : V}, noClo d = true → Rep T ρ G v d → Rep T ρ (unH cl G) v d
  | .non, _, _, h => h
  | .bl _, _, _, h => h
  | .int _, _, _, h => h
  | .str _, _, _, h => h
  | .ty _, _, _, h => h
  | .glo _, v, _, h => by unfold Rep at h ⊢; exact h
  | .fn _, v, _, h => by unfold Rep at h ⊢; exact h
  | .rng _ _, v, _, h => by unfold Rep at h ⊢; obtain ⟨a, e, q⟩ := h; exact ⟨a, e, un_at C q fun _ => by intro z; cases z⟩
  | .obj _, v, _, h => by unfold Rep at h ⊢; exact h
  | .new _, _, _, h => by unfold Rep at h; exact h.elim
  | .bor _, _, _, h => by unfold Rep at h; exact h.elim
  | .lam cl' L, v, _, h => by
    unfold Rep at h ⊢
    obtain ⟨f, e, ⟨c', dV, e1, e2, e3⟩⟩ := h
    exact ⟨f, e, ⟨c', dV, un_at C e1 (fun _ => by intro z; cases z), un_at C e2 (fun _ => by intro z; cases z), e3.elim .inl fun ⟨a, t, b, d⟩ => .inr ⟨a, t, b, un_at C d fun _ => by intro z; cases z⟩⟩⟩
  | .clo _ _, _, n, _ => by unfold noClo at n; cases n
  | .tup l, v, n, h => by
    unfold noClo at n; unfold Rep at h ⊢
    obtain ⟨a, vs, e, q, z, r⟩ := h
    exact ⟨a, vs, e, q.elim (fun q => .inl (un_at C q fun _ => by intro z; cases z)) .inr, z, Reps.un C n r⟩
  | .lst l, v, n, h => by
    unfold noClo at n; unfold Rep at h ⊢
    obtain ⟨a, vs, e, q, z, r⟩ := h
    exact ⟨a, vs, e, un_at C q (fun _ => by intro z; cases z), z, Reps.un C n r⟩
  | .scr l, v, n, h => by
    unfold noClo at n; unfold Rep at h ⊢
    obtain ⟨a, vs, e, q, z, r⟩ := h
    refine ⟨a, vs, e, ?_, z, Reps.un C n r⟩
    rcases q with (q | ⟨o, q⟩) | q
    · exact .inl (.inl (un_at C q fun _ => by intro z; cases z))
    · exact .inl (.inr ⟨o, un_at C q fun _ => by intro z; cases z⟩)
    · exact .inr q
  | .ins c fs, v, n, h => by
    unfold noClo at n; unfold Rep at h ⊢
    obtain ⟨a, C', dx, vf, e, m, q, r⟩ := h
    exact ⟨a, C', dx, vf, e, m, un_at C q (fun _ => by intro z; cases z), RepF.un C n r⟩
  | .exn c fs, v, n, h => by
    unfold noClo at n; unfold Rep at h ⊢
    obtain ⟨a, C', d, vf, e, m, q, q2, r⟩ := h
    exact ⟨a, C', d, vf, e, m, un_at C q (fun _ => by intro z; cases z), un_at C q2 (fun _ => by intro z; cases z), RepF.un C n r⟩
theorem Reps.un (C : CelSet cl G) : ∀ {l : List D} {vs : List V}, noClos l = true → Reps T ρ G vs l → Reps T ρ (unH cl G) vs l
  | [], _, _, h => by unfold Reps at h ⊢; exact h
  | d :: ds, vs, n, h => by
    unfold noClos at n
    simp only [Bool.and_eq_true] at n
    unfold Reps at h ⊢
    obtain ⟨v, r, e, q, t⟩ := h
    exact ⟨v, r, e, Rep.un C n.1 q, Reps.un C n.2 t⟩
theorem RepF.un (C : CelSet cl G) : ∀ {l : List (Str × D)} {vs : List (Str × V)}, noCloF l = true → RepF T ρ G vs l → RepF T ρ (unH cl G) vs l
  | [], _, _, h => by unfold RepF at h ⊢; exact h
  | (f, d) :: ds, vs, n, h => by
    unfold noCloF at n
    simp only [Bool.and_eq_true] at n
    unfold RepF at h ⊢
    obtain ⟨v, r, e, q, t⟩ := h
    exact ⟨v, r, e, Rep.un C n.1 q, RepF.un C n.2 t⟩
end
end
def plainM : MObj → Bool
  | .slf _ _ => false
  | _ => true
section
variable {T : Tx} {ρ ρ' : List Addr} {G G' H H' : Hp} {cl : List (Str × Addr)} {μ : Mu} {h : Heap}
/-- the frame's own: nothing of the cells is tracked -/
theorem same_frz (C : CelFree cl h H) (gh : Same G H) : Same G (frzH cl h G) := fun a o e => by rw [frz_out (C.out (gh a o e))]; exact e
theorem same_frzH (C : CelFree cl h H) : Same H (frzH cl h H) := fun a o e => by rw [frz_out (C.out e)]; exact e
theorem gh_frz (C : CelFree cl h H) (gh : Same G H) : Same (frzH cl h G) (frzH cl h H) := fun a o e => by
  by_cases c : isCel cl a
  · obtain ⟨v, ob, e1, e2⟩ := C.cell a c
    rw [frz_cel c e1] at e ⊢; exact e
  · rw [frz_out c] at e ⊢; exact gh a o e
theorem StR.frz (C : CelFree cl h H) (gh : Same G H) (st : StR T ρ G H μ) : StR T ρ (frzH cl h G) (frzH cl h H) μ :=
  ⟨st.len, st.nd, fun a m => by
    obtain ⟨k, hk⟩ := List.mem_iff_getElem?.mp m
    have lt : k < μ.length := by rw [← st.len]; exact (List.getElem?_eq_some_iff.mp hk).1
    obtain ⟨b, eb, r⟩ := st.at_ k μ[k] (by simp [lt])
    rw [hk] at eb; cases eb
    obtain ⟨o, eo⟩ := r.some
    rw [frz_out (C.out eo)]; exact st.off a m, fun k m hm => by
    obtain ⟨a, ea, r⟩ := st.at_ k m hm
    exact ⟨a, ea, r.to (same_frz C gh) fun o e => same_frzH C a o e⟩⟩
theorem celSet_frz (C : CelFree cl h H) : CelSet cl (frzH cl h G) := ⟨fun a c => by
  obtain ⟨v, o, e1, e2⟩ := C.cell a c
  exact ⟨o, v, frz_cel c e1, e2⟩⟩
theorem CelSet.mono (C : CelSet cl G) (s : Same G G') : CelSet cl G' := ⟨fun a c => (let ⟨o, v, e1, e2⟩ := C.at_ a c; ⟨o, v, s _ _ e1, e2⟩)⟩
theorem same_un (C : CelSet cl H) (gh : Same G H) : Same (unH cl G) (unH cl H) := fun a o e => by
  by_cases c : isCel cl a
  · rw [un_cel c] at e; cases e
  · rw [un_out c] at e ⊢; exact gh a o e
theorem StR.un (C : CelSet cl G) (st : StR T ρ G H μ) (np : μ.all plainM = true) : StR T ρ (unH cl G) (unH cl H) μ :=
  ⟨st.len, st.nd, fun a m => by
    by_cases c : isCel cl a
    · exact un_cel c
    · rw [un_out c]; exact st.off a m, fun k m hm => by
    obtain ⟨a, ea, r⟩ := st.at_ k m hm
    have nc : ¬ isCel cl a := C.outN (st.off a (List.mem_of_getElem? ea))
    refine ⟨a, ea, ?_⟩
    have pm := List.all_eq_true.mp np m (List.mem_of_getElem? hm)
    cases m with
    | slf c fs => cases pm
    | src s =>
      obtain ⟨l, e1, e2⟩ := r
      exact ⟨l, by rw [un_out nc]; exact e1, un_at C e2 fun _ => by intro z; cases z⟩
    | tab p q =>
      obtain ⟨e0, ps, e1, e2, e3⟩ := r
      exact ⟨e0, ps, by rw [un_out nc]; exact e1, e2, fun pos u hu => (let ⟨b, x, y⟩ := e3 pos u hu; ⟨b, x, un_at C y fun _ => by intro z; cases z⟩)⟩⟩
/-- back in the frame whose cells they are -/
theorem Ext.un (C : CelFree cl h H) (gh : Same G H) (gh' : Same G' H') (x : Ext ρ (frzH cl h G) (frzH cl h H) ρ' G' H') : Ext ρ G H ρ' (unH cl G') (unH cl H') := by
  have cs : CelSet cl G' := (celSet_frz (G := G) C).mono x.gg
  refine ⟨fun a o e => ?_, x.pre, fun a o e => ?_, fun a o e e0 => ?_, fun a m n => ?_⟩
  · have c := C.out (gh a o e)
    rw [un_out c]; exact x.gg a o (by rw [frz_out c]; exact e)
  · have c := C.out e
    obtain ⟨o', e1, e2⟩ := x.keep a o (by rw [frz_out c]; exact e)
    exact ⟨o', by rw [un_out c]; exact e1, e2⟩
  · by_cases c : isCel cl a
    · rw [un_cel c] at e; cases e
    · rw [un_out c] at e
      have := x.fg a o e (by rw [frz_out c]; exact e0)
      rw [frz_out c] at this; exact this
  · by_cases c : isCel cl a
    · exact C.none_ a c
    · have := x.fr a m n
      rw [frz_out c] at this; exact this
/-- back where the cells are tracked -/
theorem frz_back {G3 : Hp} (n3 : ∀ a, isCel cl a → G3 a = none) : Same G3 (frzH cl h G3) := fun a o e => by
  rw [frz_out fun c => by rw [n3 a c] at e; cases e]; exact e
theorem Ext.back {G3 H3 : Hp} (C : CelSet cl G) (gh : Same G H) (at_ : ∀ a, isCel cl a → ∃ o v, H a = some (celO o) ∧ o.data = .cell v ∧ h.get? a = some o) (n3 : ∀ a, isCel cl a → H3 a = Option.none) (gh3 : Same G3 H3) (st : StR T ρ' G3 H3 μ) (x : Ext ρ (unH cl G) (unH cl H) ρ' G3 H3) : Ext ρ G H ρ' (frzH cl h G3) (frzH cl h H3) := by
  have same : ∀ {a : Addr} {o : HO}, isCel cl a → H a = some o → ∀ {K3 : Hp}, frzH cl h K3 a = some o := fun {a o} c e K3 => by
    obtain ⟨ob, v, e1, _, e3⟩ := at_ a c
    rw [e] at e1; cases e1
    exact frz_cel c e3
  have g3 : ∀ a, isCel cl a → G3 a = Option.none := fun a c => by
    cases e : G3 a with
    | none => rfl
    | some o => have := gh3 a o e; rw [n3 a c] at this; cases this
  refine ⟨fun a o e => ?_, x.pre, fun a o e => ?_, fun a o e e0 => ?_, fun a m n => ?_⟩
  · by_cases c : isCel cl a
    · exact same c (gh a o e)
    · rw [frz_out c]; exact x.gg a o (by rw [un_out c]; exact e)
  · by_cases c : isCel cl a
    · exact ⟨o, same c e, fun _ => rfl⟩
    · obtain ⟨o', e1, e2⟩ := x.keep a o (by rw [un_out c]; exact e)
      exact ⟨o', by rw [frz_out c]; exact e1, e2⟩
  · have c := C.outN e0
    rw [frz_out c] at e
    have := x.fg a o e (by rw [un_out c]; exact e0)
    rw [un_out c] at this; exact this
  · have c : ¬ isCel cl a := fun c => by
      obtain ⟨k, hk⟩ := List.mem_iff_getElem?.mp m
      have lt : k < μ.length := by rw [← st.len]; exact (List.getElem?_eq_some_iff.mp hk).1
      obtain ⟨b, eb, r⟩ := st.at_ k μ[k] (by simp [lt])
      rw [hk] at eb; cases eb
      obtain ⟨o, eo⟩ := r.some
      rw [n3 a c] at eo; cases eo
    have := x.fr a m n
    rw [un_out c] at this; exact this
theorem StR.back {G3 H3 : Hp} (n3 : ∀ a, isCel cl a → H3 a = none) (gh3 : Same G3 H3) (st : StR T ρ' G3 H3 μ) : StR T ρ' (frzH cl h G3) (frzH cl h H3) μ := by
  have g3 : ∀ a, isCel cl a → G3 a = none := fun a c => by
    cases e : G3 a with
    | none => rfl
    | some o => have := gh3 a o e; rw [n3 a c] at this; cases this
  refine ⟨st.len, st.nd, fun a m => ?_, fun k m hm => ?_⟩
  · obtain ⟨k, hk⟩ := List.mem_iff_getElem?.mp m
    have lt : k < μ.length := by rw [← st.len]; exact (List.getElem?_eq_some_iff.mp hk).1
    obtain ⟨b, eb, r⟩ := st.at_ k μ[k] (by simp [lt])
    rw [hk] at eb; cases eb
    obtain ⟨o, eo⟩ := r.some
    rw [frz_out fun c => by rw [n3 a c] at eo; cases eo]; exact st.off a m
  · obtain ⟨a, ea, r⟩ := st.at_ k m hm
    exact ⟨a, ea, r.to (frz_back g3) fun o e => frz_back n3 a o e⟩
theorem gh_back {G3 H3 : Hp} (n3 : ∀ a, isCel cl a → H3 a = none) (gh3 : Same G3 H3) : Same (frzH cl h G3) (frzH cl h H3) := fun a o e => by
  by_cases c : isCel cl a
  · unfold frzH at e ⊢
    rw [if_pos c] at e ⊢; exact e
  · rw [frz_out c] at e ⊢; exact gh3 a o e
end
end Dv

/-! DwZG: a closure called where the cells it caught are tracked. -/
namespace Dv
open PySem PySem.Spec PyProof.Rows L2
section
variable {P : Program} {w : World} {K : PySem.W.Frag} {mg : Str → Option Value} {base : Heap} {A : Around} {outer : List Env} {s s2 : Shared} {H : Hp} {cl : List (Str × Addr)} {u : Value} {E E' : XK}
theorem cx_back (C : CelSet cl H) (e0 : Env0 P w K mg base A outer s H) (x : L2.CX P w outer (unH cl H) s E' u s2) (q : ∀ cls d H', (∀ a, isCel cl a → H' a = none) → E' cls d H' → E cls d (frzH cl s.heap H')) : L2.CX P w outer H s E u s2 := by
  obtain ⟨a, B, H', cls, d, e, fl, ok, ub, na, os, ag, he⟩ := x
  have nf : ∀ a, isCel cl a → a ∉ frs outer := fun a c m => C.outN (e0.frf a m) c
  have free : ∀ {a : Addr}, isCel cl a → H' a = none ∧ ∃ o, s.heap.get? a = some o ∧ B.get? a = some o := fun {a} c => by
    obtain ⟨o', v, _, _, e3⟩ := cel_obj C e0.hok c
    exact ⟨ub.free a o' e3 (un_cel c), o', e3, ub.keep a o' e3 (un_cel c) (nf a c)⟩
  have keep : ∀ {a : Addr} {o : HO}, H' a = some o → frzH cl s.heap H' a = some o := fun {a o} q => by
    rw [frz_out fun c => by rw [(free c).1] at q; cases q]; exact q
  refine ⟨a, B, frzH cl s.heap H', cls, d, e, fl, fun b o e => ?_, ⟨fun b o e n hb => ub.keep b o e (by rw [un_out (C.outN n)]; exact n) hb, ub.slot, fun b o e n => ?_, ub.there, fun b xs e => ?_, fun b o u e => ?_, fun b ps e => ?_⟩, ?_, os, ag, q cls d H' (fun a c => (free c).1) he⟩
  · by_cases c : isCel cl b
    · obtain ⟨_, o', e1, e2⟩ := free c
      rw [frz_cel c e1] at e
      cases e
      exact ⟨e2, trivial, ⟨o', e2⟩, fun _ _ _ _ => trivial⟩
    · rw [frz_out c] at e
      exact (ok b o e).stay (fun b u _ q => q) (fun b q => keep q) fun b xs q => keep q
  · rw [frz_out (C.outN n)]; exact ub.free b o e (by rw [un_out (C.outN n)]; exact n)
  · have c := C.out e fun _ => by intro z; cases z
    rw [frz_out c]; exact ub.tups b xs (by rw [un_out c]; exact e)
  · by_cases c : isCel cl b
    · obtain ⟨o', v, e1, _, e3⟩ := cel_obj C e0.hok c
      rw [e1] at e
      cases e
      exact frz_cel c e3
    · rw [frz_out c]; exact ub.frzs b o u (by rw [un_out c]; exact e)
  · have c := C.out e fun _ => by intro z; cases z
    rw [frz_out c]; exact ub.tbls b ps (by rw [un_out c]; exact e)
  · have c : ¬ isCel cl a := fun c => by
      obtain ⟨_, o', _, e2⟩ := free c
      rw [fl.2.1] at e2; cases e2
    rw [frz_out c]; exact na
end
/-! ### the call itself -/
structure LamB (L : LamI) (ps : List Str) : Prop where
  none_ : L.dfl = false → ps = [] ∧ ∀ (cl : List (Str × Addr)) (doc pm cdv ct : Value), bindArgs (PySem.W.kdv_fn "<lambda>" L.q L.params (.expr L.body) L.scope cl .none doc pm cdv ct) ⟨[], []⟩ = pure []
  one : L.dfl = true → ∃ p, ps = [p] ∧ ∀ (cl : List (Str × Addr)) (t : Addr) (doc pm cdv ct : Value), ∃ k, bindArgs (PySem.W.kdv_fn "<lambda>" L.q L.params (.expr L.body) L.scope cl (.ref t) doc pm cdv ct) ⟨[], []⟩ = seqItems? (.ref t) >>= k ∧ ∀ u : Value, k (some #[u]) = pure [(p, u)]
abbrev nfOf (L : LamI) (cl : List (Str × Addr)) (c' : Addr) : NdefX.NF := ⟨"<lambda>", L.q, L.params, [], L.scope, cl, c'⟩
def preV (L : LamI) : List V := if L.dfl then [.int 0] else []
section
variable {P : Program} {w : World} {K : PySem.W.Frag} {mg : Str → Option Value} {base : Heap} {A : Around} {outer : List Env} {s : Shared} {H : Hp} {cl : List (Str × Addr)} {f : Addr} {L : LamI} {N ps : List Str} {vs : List V} {k : Nat} {t : Addr → TE} {Q : VK} {E : XK}
theorem cellsAt_of (e0 : Env0 P w K mg base A outer s H) (CA : CelAt H cl L.fr vs) : NdefX.CellsAt cl L.fr (vs.map some) s.heap (unH cl H) where
  len := by rw [List.length_map]; exact CA.len
  all := fun y a e => by
    obtain ⟨o, u, e1, e2⟩ := CA.all y a e
    exact ⟨un_cel ⟨y, e⟩, u, o, (e0.hok a _ e1).1, e2⟩
  inj := CA.inj
  has := fun i y e => by
    obtain ⟨a, o, u, v, e1, e2, e3, e4, e5⟩ := CA.has i y e
    refine ⟨a, e1, fun v' ev => ?_⟩
    rw [List.getElem?_map, e4] at ev
    cases ev
    exact ⟨u, e5, o, (e0.hok a _ e2).1, e3⟩
theorem celSet_of (CA : CelAt H cl L.fr vs) : CelSet cl H := ⟨fun a ⟨y, e⟩ => CA.all y a e⟩
theorem run_clo (S : NdefX.NScope N ps L.fr L.scope) (LB : LamB L ps) (e0 : Env0 P w K mg base A outer s H) (hr : Room (k + 1) A) (FA : FunAt H f cl L) (CA : CelAt H cl L.fr vs)
    (read : ∀ c', Room k (A.deeper (NdefX.envF (nfOf L cl c') f s.heap.objs.size)) → PE (NdefX.ncx (L2.CX P w) P w K mg base N (nfOf L cl c') f A outer s (unH cl H) E) L.body (t c')) (hq : ∀ c', t c' (NdefX.startF N (preV L) (vs.map some)) (unH cl H) Q) :
    codeAny (model P w) A (.call (.ref f) ⟨[], []⟩) (CR (L2.CX P w) outer P w (unH cl H) s Q E) s := by
  obtain ⟨c', dV, e1, e2, e3⟩ := FA.ex
  obtain ⟨⟨doc, pm, ctv, ho⟩, _, _⟩ := e0.hok f _ e1
  have CS := celSet_of CA
  have e0' := env0_un e0 CS
  have CC := cellsAt_of e0 CA
  have lim : s.heap.NoLimit := e0.mod.nolimit.keeps fun b o e => (e0.bs b o e).1
  have enter : ∀ (us : List Value), (preV L).length = ps.length → Vals (preV L) us → wpAny (model P w) A.in1 (newFunctionEnv L.scope mainGlobals cl (ps.zip us) (L.q ++ ".<locals>.") (some f) (.ref c') none builtinsNs)
      (fun env s₂ => s₂.heap.NoLimit ∧ codeAny (model P w) A (.expr L.body env) (CR (L2.CX P w) outer P w (unH cl H) s Q E) s₂) (fun e s' => CR (L2.CX P w) outer P w (unH cl H) s Q E (.error e) s') s := fun us hl r => by
    refine wpAny_newFunctionEnv S.nocell (fun ⟨n, _⟩ hy => S.par n (List.of_mem_zip hy).1) (fun h₁ hns hsb => ⟨lim.fresh _ hsb, PySem.W.kla_codeExpr ?_⟩) S.kind
    have kp : ∀ b o, s.heap.get? b = some o → h₁.get? b = some o := fun b o e => hsb.extBut b o (Nat.ne_of_lt (Heap.lt_size e)) (Heap.get?_push_of_some _ e)
    have I : Inv (NdefX.ncx (L2.CX P w) P w K mg base N (nfOf L cl c') f A outer s (unH cl H) E) [] (NdefX.startF N (preV L) (vs.map some)) (unH cl H) { s with heap := h₁, toks := s.toks + (ps.zip us).length } := NdefX.inv_startN S hr.hd e0' hl r CC hns kp
    refine wpAny_mono ((read c' (hr.deeper _)).run [] _ _ _ Q I (hq c')) (fun v s' h => ?_) fun _ _ z => z
    obtain ⟨v', H', J, rv, q⟩ := h
    exact ⟨v', H', J.os, J.bare, J.base, J.hok, rv, q⟩
  refine PySem.W.kla_callFunE hr.depth ho rfl S.co S.gen rfl (NdefX.codeO_at e0.hok e2) ?_
  rcases e3 with ⟨hd, rfl⟩ | ⟨hd, t0, rfl, e4⟩
  · obtain ⟨rfl, hb⟩ := LB.none_ hd
    rw [hb]
    exact wpAny_pure (enter [] (by unfold preV; rw [hd]; rfl) (by unfold preV; rw [hd]; exact .nil))
  · obtain ⟨p, rfl, hb⟩ := LB.one hd
    obtain ⟨kk, h1, h2⟩ := hb cl t0 doc pm (.ref c') ctv
    obtain ⟨_, its, rv, o, ho2, hc2, n2, hd2⟩ := e0.hok t0 _ e4
    obtain ⟨u0, rfl, ru⟩ := vals1 rv
    refine (BindsTo.of_defaults (T := t0) rfl ho2 hd2 h1 (h2 u0)) _ _ _ _ ?_
    exact enter [u0] (by unfold preV; rw [hd]; rfl) (by unfold preV; rw [hd]; exact .cons ru .nil)
end
end Dv

/-! DwZH: a closure called, at the level of deep values. -/
namespace Dv
open PySem PySem.Spec PyProof.Rows L2
section
variable {T : Tx} {ρ ρ' : List Addr} {G3 H3 H : Hp} {cl : List (Str × Addr)} {h : Heap} {v : V} {d : D}
theorem g3_none (n3 : ∀ a, isCel cl a → H3 a = none) (gh3 : Same G3 H3) : ∀ a, isCel cl a → G3 a = none := fun a c => by
  cases e : G3 a with
  | none => rfl
  | some o => have := gh3 a o e; rw [n3 a c] at this; cases this
theorem repO_back (n3 : ∀ a, isCel cl a → H3 a = none) (gh3 : Same G3 H3) (r : RepO T ρ' G3 H3 (unH cl H) v d) : RepO T ρ' (frzH cl h G3) (frzH cl h H3) H v d := by
  have s := frz_back (h := h) (g3_none n3 gh3)
  cases d with
  | new l =>
    obtain ⟨p, vs, e1, e2, e3, e4, e5, e6, e7⟩ := r
    have c : ¬ isCel cl p := fun c => by rw [n3 p c] at e2; cases e2
    exact ⟨p, vs, e1, by rw [frz_out c]; exact e2, e3.mono s (.refl _), e4, by rw [frz_out c]; exact e5, e6, by rw [un_out c] at e7; exact e7⟩
  | _ => exact Rep.mono s (.refl _) r
theorem exR_back {cls : Value} {dd : Option Addr} {x : Exn} (n3 : ∀ a, isCel cl a → H3 a = none) (gh3 : Same G3 H3) (r : ExR T ρ' G3 H3 cls dd x) : ExR T ρ' (frzH cl h G3) (frzH cl h H3) cls dd x := by
  have s := frz_back (h := h) (g3_none n3 gh3)
  obtain ⟨C, d, vf, e1, e2, e3, e4, e5⟩ := r
  exact ⟨C, d, vf, e1, e2, e3, s _ _ e4, e5.mono s (.refl _)⟩
end
/-! ### what a lambda means, by what it caught -/
def askR : Res D → Res D
  | some (.val d, μ') => if nobor d then some (.val d, μ') else none
  | r => r
def preD (L : LamI) : List D := if L.dfl then [.int 0] else []
def lamM (n : Nat) (L : LamI) (mb : DEx) : List D → Mu → Res D := fun ds μ => askR (mb (envD n (preD L ++ ds)) μ)
structure LamOk (P : Program) (w : World) (K : PySem.W.Frag) (mg : Str → Option Value) (base : Heap) (k : Nat) (L : LamI) (m : List D → Mu → Res D) : Prop where
  ex : ∃ (N ps : List Str) (mb : DEx), NdefX.NScope N ps L.fr L.scope ∧ LamB L ps ∧ (∀ (A : Around) (outer : List Env) (s : Shared) (H : Hp) (E : XK) (f : Addr) (cl : List (Str × Addr)) (c' : Addr) (B : Bs), Room k (A.deeper (NdefX.envF (nfOf L cl c') f s.heap.objs.size)) →
    DE (NdefX.ncx (L2.CX P w) P w K mg base N (nfOf L cl c') f A outer s H E) B (fun cls d _ H => E cls d H) L.body mb) ∧ ∀ ds μ, m ds μ = lamM N.length L mb ds μ
open Classical in
noncomputable def dAskC (i n : Nat) (lams : Nat → LamI) (tab : Nat → List D → Mu → Res D) : DEx := fun env μ => match env[i]? with
  | some (.v (.clo L ds)) => if L.num < n ∧ L = lams L.num ∧ noClos ds = true ∧ μ.all plainM = true then tab L.num ds μ else none
  | _ => none
theorem reps_pre {T : Tx} {ρ : List Addr} {G : Hp} {L : LamI} : Reps T ρ G (preV L) (preD L) := by
  unfold preV preD
  cases L.dfl with
  | false => exact .nil
  | true => exact .one rep_int
theorem startF_eq {N : List Str} {us vs : List V} : NdefX.startF N us (vs.map some) = L2.start N (us ++ vs) := by
  unfold NdefX.startF L2.start
  rw [List.map_append, List.append_assoc, List.length_map, List.length_append, Nat.sub_add_eq]
section
variable {Y : Cx} {B : Bs} {W : WX} {i n k : Nat} {a : Str} {lams : Nat → LamI} {tab : Nat → List D → Mu → Res D} {p1 p2 : Pos}
theorem de_askC (zero : Y.N[i]? = some a) (vis : Vis Y.env.scope a) (d1 : (a == ("__debug__" : Str)) = false) (d2 : (a == ("__classdict__" : Str)) = false) (tk : Takes Y W) (room : Room (k + 1) Y.A)
    (all : ∀ j, j < n → LamOk Y.prog Y.w Y.K Y.mg Y.base k (lams j) (tab j)) : DE Y B W (.Call (.Name a p1) [] [] p2) (dAskC i n lams tab) := by
  refine ⟨⟨fun pins s τ H Q I0 ⟨ρ, G, env, μ, R, kk⟩ => ?_⟩⟩
  unfold dAskC at kk
  split at kk
  · rename_i L ds h0
    split at kk
    · rename_i hc
      obtain ⟨hn, hL, hnc, hpm⟩ := hc
      obtain ⟨v, e1, e2⟩ := R.slot i _ h0
      unfold Rep at e2
      obtain ⟨f, cl, vs, rfl, FA, CA, r⟩ := e2
      have FH := FA.mono R.gh
      have CH := CA.mono R.gh
      have CSG := celSet_of CA
      have CSH := celSet_of CH
      apply wpAny_Call_Name_kw
      refine thn ((pe_var (pos := p1) (i := i) zero vis d1 d2).run pins s τ H (fun v H2 => v = .ref f ∧ H2 = H) I0 ⟨.ref f, e1, rfl, rfl⟩) ?_
      rintro u s1 ⟨v2, H2, I1, rel, e3, e4⟩
      rw [e4] at I1
      rw [e3] at rel
      have eu : u = Value.ref f := rel
      subst eu
      obtain ⟨c0, dV0, g1, _⟩ := FH.ex
      obtain ⟨⟨doc, pm, ctv, ho⟩, _⟩ := I1.hok f _ g1
      apply PySem.W.callWith_F0 ⟨_, _, _, _, ho⟩
      obtain ⟨N, ps, mb, S, LB, read, hm⟩ := (all L.num hn).ex
      rw [← hL] at S LB read hm
      have e0 := I1.env0
      have hm' := hm ds μ
      have runs : codeAny (model Y.prog Y.w) Y.A (.call (.ref f) ⟨[], []⟩) (CR (L2.CX Y.prog Y.w) Y.stack Y.prog Y.w (unH cl H) s1
          (fun v H3 => ∃ ρ' G3 μ' d, tab L.num ds μ = some (.val d, μ') ∧ Ext ρ (unH cl G) (unH cl H) ρ' G3 H3 ∧ Same G3 H3 ∧ StR (tx Y) ρ' G3 H3 μ' ∧ RepO (tx Y) ρ' G3 H3 (unH cl H) v d)
          (fun cls dd H3 => ∃ ρ' G3 μ' x, tab L.num ds μ = some (.exc x, μ') ∧ Ext ρ (unH cl G) (unH cl H) ρ' G3 H3 ∧ Same G3 H3 ∧ StR (tx Y) ρ' G3 H3 μ' ∧ ExR (tx Y) ρ' G3 H3 cls dd x)) s1 := by
        refine run_clo (t := fun c' => fun σ H' Q' => ∃ B', rdE (tx Y) B' (fun cls dd _ H3 => ∃ ρ' G3 μ' x, tab L.num ds μ = some (.exc x, μ') ∧ Ext ρ (unH cl G) (unH cl H) ρ' G3 H3 ∧ Same G3 H3 ∧ StR (tx Y) ρ' G3 H3 μ' ∧ ExR (tx Y) ρ' G3 H3 cls dd x) mb σ H' Q') S LB e0 room FH CH
          (fun c' rm => ⟨fun pins s2 σ2 H2 Q2 I2 ⟨B', q⟩ => (read Y.A Y.stack s1 (unH cl H) _ f cl c' B' rm).run.run pins s2 σ2 H2 Q2 I2 q⟩) fun c' => ?_
        refine ⟨⟨unH cl H, unH cl G, ρ, []⟩, ρ, unH cl G, envD N.length (preD L ++ ds), μ, ?_, ?_⟩
        · rw [startF_eq]
          exact start_rd (same_un CSH R.gh) (R.st.un CSG hpm) (reps_pre.append (r.un CSG hnc))
        · unfold lamM at hm'
          cases e : mb (envD N.length (preD L ++ ds)) μ with
          | none => rw [hm', e] at kk; exact kk.elim
          | some z =>
            obtain ⟨o, μ2⟩ := z
            cases o with
            | exc y =>
              rw [e] at hm'
              exact fun ρ2 G2 H2 cls dd s p R3 er => ⟨ρ2, G2, μ2, y, hm', R3.ext, R3.gh, R3.st, er⟩
            | val d =>
              rw [e] at hm'
              have hm2 : tab L.num ds μ = if nobor d then some (.val d, μ2) else none := hm'
              by_cases clean : nobor d = true
              · rw [if_pos clean] at hm2
                exact fun ρ2 G2 H2 s p R3 v hv => ⟨ρ2, G2, μ2, d, hm2, R3.ext, R3.gh, R3.st, repO_of hv clean⟩
              · rw [if_neg clean] at hm2
                rw [hm2] at kk; exact kk.elim
      refine wpAny_call (codeAny_mono runs fun r s2 out => ?_)
      have at_ := fun a (c : isCel cl a) => cel_obj CSH I1.hok c
      match r, out with
      | .error e, out =>
        have out2 : L2.CX Y.prog Y.w Y.stack H s1 (fun cls d H' => W cls d τ H') e s2 := cx_back CSH e0 out fun cls d H' n3 ⟨ρ', G3, μ', x, et, ex, gh, st, er⟩ => by
          rw [et] at kk
          have ex2 := Ext.back (h := s1.heap) CSG R.gh at_ n3 gh st ex
          exact kk ρ' _ _ cls d ex2.gg ex2.pre (R.after ex2 (gh_back n3 gh) (st.back n3 gh)) (exR_back n3 gh er)
        exact passAt tk τ pins _ s1 e s2 I1 out2
      | .ok (.ret u), out =>
        have out2 : CE Y.stack Y.prog Y.w H s1 Q u s2 := ce_back CSH e0 out fun v H' n3 ⟨ρ', G3, μ', d, et, ex, gh, st, rd⟩ => by
          rw [et] at kk
          have ex2 := Ext.back (h := s1.heap) CSG R.gh at_ n3 gh st ex
          have R2 := R.after ex2 (gh_back n3 gh) (st.back n3 gh)
          exact kk ρ' _ _ ex2.gg ex2.pre R2 v (repX_after R (repO_back n3 gh rd))
        exact I1.after out2
      | .ok .next, out => exact False.elim out
      | .ok .brk, out => exact False.elim out
      | .ok .cont, out => exact False.elim out
    · exact kk.elim
  · exact kk.elim
end
end Dv

/-! DwZI: a def called with a list of lambdas: for the call their cells are tracked. -/
namespace Dv
open PySem PySem.Spec PyProof.Rows L2
/-! ### a lambda and what it has caught -/
def jsOf (N fr : List Str) : List Nat := fr.map fun y => N.idxOf y
def capsC (N : List Str) (sc : Scope) (L : LamI) : Bool := NdefX.ndefB sc L.scope L.fr && decide ((jsOf N L.fr).map (fun j => N[j]?) = L.fr.map some)
def capD (env : DEnv) : List Nat → Option (List D)
  | [] => some []
  | j :: js => match env[j]? with
    | some (.v d) => (match capD env js with
      | some ds => some (d :: ds)
      | none => none)
    | _ => none
open Classical in
noncomputable def cloD (N : List Str) (sc : Scope) (cells : List (Str × Addr)) (env : DEnv) : D → Option D
  | .lam cl L => if cl = cloFrom cells L.scope.names [] ∧ capsC N sc L = true then (match capD env (jsOf N L.fr) with
    | some ds => some (.clo L ds)
    | none => none) else none
  | _ => none
noncomputable def closD (N : List Str) (sc : Scope) (cells : List (Str × Addr)) (env : DEnv) : List D → Option (List D)
  | [] => some []
  | d :: l => match cloD N sc cells env d, closD N sc cells env l with
    | some c, some cs => some (c :: cs)
    | _, _ => none
def noCloX : D → Bool
  | .new l => noClos l
  | d => noClo d && nobor d
noncomputable def fClos (m : Fn) (N : List Str) (sc : Scope) (cells : List (Str × Addr)) (env : DEnv) (d : D) (μ : Mu) : Res D := match hold d with
  | .lst l => (match closD N sc cells env l with
    | some cs => (match m [.lst cs] μ with
      | some (.val d', μ') => if noCloX d' = true ∧ μ'.all plainM = true then ret d' μ' else none
      | _ => none)
    | none => none)
  | _ => none
noncomputable def dClos (m : Fn) (N : List Str) (sc : Scope) (cells : List (Str × Addr)) (na : DEx) : DEx := fun env μ => bindR (na env μ) (fClos m N sc cells env)
section
variable {X : Cx} {B : Bs} {W : WX} {pins : List (Addr × Obj)} {σ : L2.St} {H G : Hp} {s : Shared} {ρ : List Addr} {env : DEnv} {μ : Mu}
theorem capD_ok (R : RD (tx X) B ρ G H σ env μ) : ∀ {js : List Nat} {ds : List D}, capD env js = some ds → ∃ vs, js.map (NdefX.slotAt σ) = vs.map some ∧ Reps (tx X) ρ G vs ds
  | [], ds, h => by unfold capD at h; cases h; exact ⟨[], rfl, .nil⟩
  | j :: js, ds, h => by
    unfold capD at h
    split at h
    · rename_i d e
      split at h
      · rename_i ds' e2
        cases h
        obtain ⟨v, e3, r⟩ := R.slot j _ e
        obtain ⟨vs, e4, rs⟩ := capD_ok R e2
        exact ⟨v :: vs, by rw [List.map_cons, e4, NdefX.slotAt_of e3]; rfl, .cons r rs⟩
      · cases h
    · cases h
theorem celFree_of (I : Inv X pins σ H s) : CelFree X.env.cells s.heap H := ⟨fun a ⟨x, e⟩ => I.freeC x a e, fun a ⟨x, e⟩ => I.cell x a e⟩
theorem cloD_ok (I : Inv X pins σ H s) (R : RD (tx X) B ρ G H σ env μ) {d c : D} {v : V} (r : Rep (tx X) ρ G v d) (h : cloD X.N X.env.scope X.env.cells env d = some c) : Rep (tx X) ρ (frzH X.env.cells s.heap G) v c := by
  have CF := celFree_of I
  have sm := same_frz CF R.gh
  unfold cloD at h
  split at h
  · rename_i cl L
    split at h
    · rename_i hc
      obtain ⟨hcl, hcap⟩ := hc
      split at h
      · rename_i ds e
        cases h
        unfold Rep at r
        obtain ⟨f, rfl, FA⟩ := r
        obtain ⟨vs, e1, rs⟩ := capD_ok R e
        unfold capsC at hcap
        simp only [Bool.and_eq_true, decide_eq_true_eq] at hcap
        have cp : NdefX.Caps X (cloFrom X.env.cells L.scope.names []) L.fr (jsOf X.N L.fr) := NdefX.Caps.made I.ok (NdefX.ndef_free hcap.1) (NdefX.ndef_fr hcap.1) hcap.2
        have CA := NdefX.cells_of I cp
        rw [e1] at CA
        rw [hcl] at FA
        unfold Rep
        refine ⟨f, _, vs, rfl, hcl ▸ FA.mono sm, ⟨by have := CA.len; rw [List.length_map] at this; exact this, fun y a e => ?_, by rw [hcl]; exact CA.inj, fun i y e => ?_⟩, rs.mono sm (.refl _)⟩
        · rw [hcl] at e
          obtain ⟨_, v, o, e2, e3⟩ := CA.all y a e
          exact ⟨o, v, frz_cel ⟨y, cp.sub y a e⟩ e2, e3⟩
        · obtain ⟨c, e2, e3⟩ := CA.has i y e
          have hl := CA.len
          rw [List.length_map] at hl
          have hi : i < vs.length := by rw [hl]; exact (List.getElem?_eq_some_iff.mp e).1
          obtain ⟨u, ru, o, e4, e5⟩ := e3 vs[i] (by rw [List.getElem?_map]; simp [hi])
          exact ⟨c, o, u, vs[i], by rw [hcl]; exact e2, frz_cel ⟨y, cp.sub y c e2⟩ e4, e5, by simp [hi], ru⟩
      · cases h
    · cases h
  · cases h
theorem closD_ok (I : Inv X pins σ H s) (R : RD (tx X) B ρ G H σ env μ) : ∀ {l cs : List D} {vs : List V}, Reps (tx X) ρ G vs l → closD X.N X.env.scope X.env.cells env l = some cs → Reps (tx X) ρ (frzH X.env.cells s.heap G) vs cs ∧ cs.length = l.length
  | [], cs, vs, r, h => by unfold closD at h; cases h; rw [r.inv0]; exact ⟨.nil, rfl⟩
  | d :: l, cs, vs, r, h => by
    unfold closD at h
    split at h
    · rename_i c cs' e1 e2
      cases h
      obtain ⟨v, t, rfl, q, rs⟩ := r.inv
      obtain ⟨r2, h2⟩ := closD_ok I R rs e2
      exact ⟨.cons (cloD_ok I R q e1) r2, by rw [List.length_cons, List.length_cons, h2]⟩
    · cases h
theorem repO_un {ρ' : List Addr} {cl : List (Str × Addr)} {h : Heap} {G' H' : Hp} {v : V} {d : D} (CF : CelFree cl h H) (CG : CelSet cl G') (CH : CelSet cl H') (n : noCloX d = true) (r : RepO (tx X) ρ' G' H' (frzH cl h H) v d) : RepO (tx X) ρ' (unH cl G') (unH cl H') H v d := by
  cases d with
  | new l =>
    obtain ⟨p, vs, e1, e2, e3, e4, e5, e6, e7⟩ := r
    have c : ¬ isCel cl p := CH.out e2 fun _ => by intro z; cases z
    exact ⟨p, vs, e1, by rw [un_out c]; exact e2, e3.un CG n, e4, by rw [un_out c]; exact e5, e6, by rw [frz_out c] at e7; exact e7⟩
  | _ =>
    unfold noCloX at n
    simp only [Bool.and_eq_true] at n
    exact Rep.un CG n.1 r
theorem de_callZ {k : Nat} {ps : List Str} {kb : List (Nat × List Str)} {m : Fn} {x : Str} {p pos : Pos} {e : Expr} {na : DEx} (C : Callee X.prog X.w X.K X.mg X.base x ps kb k m) (hp : ps.length = 1) (hr : Room k X.A) (gl : Gl X x) (hfn : ∀ y a, X.env.cells.lookup y = some a → X.fn y = true) (ha : DE X B W e na)
    (nd : (x == ("__debug__" : Str)) = false := by decide) (he : starEach [e] X.env = (false, eval e X.env) :: starEach [] X.env := by rfl) :
    DE X B W (.Call (.Name x p) [e] [] pos) (dClos m X.N X.env.scope X.env.cells na) := by
  obtain ⟨f, fd, named, kept, binds, _, F⟩ := C.ex
  refine ⟨⟨fun pins s σ H Q I ⟨ρ, G, env, μ, R, kk⟩ => ?_⟩⟩
  refine wpAny_Call_Name_kw (ld_glob I gl named ?_ nd)
  refine PySem.W.callWith_K (h₀ := X.base) I.ok.mod.kin kept ?_ he (by rfl)
  rw [he]
  show wpAny _ _ (spliced ((false, eval e X.env) :: backTo pos (starEach [] X.env))) _ _ s
  have kb := KE.bind (f := fClos m X.N X.env.scope X.env.cells env) kk
  refine Calls.spliced_cons (thn (ha.run.run pins s σ H (fun v H1 => ∃ ρ1 G1 μ1 d, Same G G1 ∧ Pre ρ ρ1 ∧ RD (tx X) B ρ1 G1 H1 σ env μ1 ∧ RepX (tx X) B ρ1 G1 H1 σ env v d ∧ KE (tx X) B σ env W (PX (tx X) B σ env Q) ρ1 G1 (fClos m X.N X.env.scope X.env.cells env d μ1)) I ⟨ρ, G, env, μ, R, kb.imp fun ρ1 G1 H1 μ1 d s1 p1 R1 k1 v hv => ⟨ρ1, G1, μ1, d, s1, p1, R1, hv, k1⟩⟩) fun u s1 hx => ?_)
  obtain ⟨v, H1, I1, rel, ρ1, G1, μ1, d, _, _, R1, hv, k1⟩ := hx
  refine Calls.spliced_nil ⟨I1.kIn, ?_⟩
  obtain ⟨G2, s2, R2, hh⟩ := hv.hold R1
  unfold fClos at k1
  split at k1
  · rename_i l el
    rw [el] at hh
    split at k1
    · rename_i cs ec
      split at k1
      · rename_i d' μ' em
        split at k1
        · rename_i hok
          obtain ⟨a, vs, rfl, ga, z, rs⟩ := lst_inv hh
          have CF := celFree_of I1
          have eu : u = Value.ref a := rel
          subst eu
          obtain ⟨rc, hl⟩ := closD_ok I1 R2 rs ec
          have big : ∀ b, isCel X.env.cells b → X.s_0.heap.objs.size ≤ b := fun b ⟨y, e⟩ => I1.ok.cab y b (hfn y b e) e
          have nb : ∀ b, isCel X.env.cells b → X.base.get? b = none := fun b c => Heap.get?_none_of_le (Nat.le_trans I1.ok.bsz (big b c))
          have nf : ∀ b, isCel X.env.cells b → b ∉ frs X.stack := fun b c mm => by
            rcases List.mem_cons.mp (I1.stkSub b mm) with e | e
            · obtain ⟨y, ey⟩ := c
              exact I1.cne y b ey e
            · obtain ⟨_, o, ho, _⟩ := I1.ok.funs.mem e
              exact absurd (Nat.lt_of_lt_of_le (Heap.lt_size ho) (big b c)) (Nat.lt_irrefl _)
          have e0 := env0_frz I1.env0 CF nb nf
          have ga2 : frzH X.env.cells s1.heap G2 a = some (.lst vs) := by rw [frz_out (CF.out (R2.gh _ _ ga))]; exact ga
          have rl : Rep (tx X) ρ1 (frzH X.env.cells s1.heap G2) (.ref a) (.lst cs) := by
            unfold Rep
            exact ⟨a, vs, rfl, ga2, by rw [hl]; exact z, rc⟩
          have run := F.run X.A X.stack s1 (frzH X.env.cells s1.heap H1) ⟨[.ref a], []⟩ [.ref a] [.ref a]
            (fun v H' => ∃ ρ' G', Ext ρ1 (frzH X.env.cells s1.heap G2) (frzH X.env.cells s1.heap H1) ρ' G' H' ∧ Same G' H' ∧ StR (tx X) ρ' G' H' μ' ∧ RepO (tx X) ρ' G' H' (frzH X.env.cells s1.heap H1) v d') (fun _ _ _ => False) hr e0 (binds s1 [.ref a] I1.kIn (by rw [hp]; rfl)) (.cons rfl .nil)
            ⟨by rw [hp]; rfl, ρ1, _, [.lst cs], μ1, gh_frz CF R2.gh, R2.st.frz CF R2.gh, .one rl, by
              show KC (tx X) ρ1 _ _ _ _ (m [.lst cs] μ1)
              rw [em]
              exact fun v ρ' G' H' ex gh st ro => ⟨ρ', G', ex, gh, st, ro⟩⟩
          refine wpAny_call (codeAny_mono run fun r s3 out => ?_)
          match r, out with
          | .error e, out =>
            obtain ⟨_, _, _, _, _, _, _, _, _, _, _, _, hF⟩ := out
            exact hF.elim
          | .ok (.ret u), out =>
            exact I1.after (ce_frz CF nf out fun v H' CH ⟨ρ', G', ex, gh, st, ro⟩ => by
              have CG : CelSet X.env.cells G' := (celSet_frz (G := G2) CF).mono ex.gg
              have ex2 := Ext.un CF R2.gh gh ex
              have R3 := R2.after ex2 (same_un CH gh) (st.un CG hok.2)
              exact k1 ρ' _ _ (s2.trans ex2.gg) ex2.pre R3 v (repX_after R2 (repO_un CF CG CH hok.1 ro)))
          | .ok .next, out => exact False.elim out
          | .ok .brk, out => exact False.elim out
          | .ok .cont, out => exact False.elim out
        · exact k1.elim
      · exact k1.elim
    · exact k1.elim
  · exact k1.elim
end
end Dv

/-! DwZJ: why a closure's call ends. -/
namespace Dv
open PySem PySem.Spec PyProof.Rows L2
theorem why_gen (fc : Str → List Str) (d0 : D) (A : DEx) (ask : Mu → Res D) (μ : Mu) (a1 : A (envD 2 [d0]) μ = ask μ) : cleanD (defD 2 (bWhy fc A)) [d0] μ = mWhy fc ask μ := by
  unfold mWhy
  have inner : ∀ (A A' : DEx) (e e' : DEnv), A e μ = A' e' μ → dTup (dCons (dC (.str "told")) (dCons A dNil)) e μ = dTup (dCons (dC (.str "told")) (dCons A' dNil)) e' μ := fun A A' e e' h => by
    unfold dTup dCons dC dNil
    simp only [bindR, Dv.ret, h]
  have e := inner A (fun _ μ => ask μ) (envD 2 [d0]) (envD 2 [.non]) a1
  unfold cleanD defD bWhy dTry dRet
  simp only [bindS, e]
  cases dTup (dCons (dC (.str "told")) (dCons (fun _ μ => ask μ) dNil)) (envD 2 [.non]) μ with
  | none => rfl
  | some z =>
    obtain ⟨o, μ'⟩ := z
    cases o with
    | val d => rfl
    | exc x =>
      simp only []
      by_cases hx : x.cls ∈ fc "code"
      · simp only [hx, if_true]
        have key : ∀ (d0 : D), dBin fAdd (dTup (dCons (dAttr (fc "code") "code" (dVar 1)) dNil)) (dCall (fCall 1 (valOnly (mField fc))) (dCons (dVar 1) dNil)) ((envD 2 [d0]).set 1 (.v (.exn x.cls x.fs))) μ' =
            dBin fAdd (dTup (dCons (dAttr (fc "code") "code" (dC (.exn x.cls x.fs))) dNil)) (dCall (fCall 1 (valOnly (mField fc))) (dCons (dC (.exn x.cls x.fs)) dNil)) [] μ' := fun d0 => rfl
        rw [key, key]
        cases dBin fAdd (dTup (dCons (dAttr (fc "code") "code" (dC (.exn x.cls x.fs))) dNil)) (dCall (fCall 1 (valOnly (mField fc))) (dCons (dC (.exn x.cls x.fs)) dNil)) [] μ' with
        | none => rfl
        | some z2 =>
          obtain ⟨o2, μ2⟩ := z2
          cases o2 <;> rfl
      · simp only [hx, if_false]
/-- _law_why, asked with a closure -/
noncomputable def mWhyC (fc : Str → List Str) (n : Nat) (lams : Nat → LamI) (tab : Nat → List D → Mu → Res D) : Fn := cleanD (defD 2 (bWhy fc (dAskC 0 n lams tab)))
theorem ask_eq {n j : Nat} {lams : Nat → LamI} {tab : Nat → List D → Mu → Res D} {ds : List D} {env : DEnv} {μ : Mu} {i : Nat} (he : env[i]? = some (.v (.clo (lams j) ds))) (hj : j < n) (hn : (lams j).num = j) (hc : noClos ds = true) (hm : μ.all plainM = true) : dAskC i n lams tab env μ = tab j ds μ := by
  unfold dAskC
  rw [he]
  simp only [hn]
  rw [if_pos ⟨hj, trivial, hc, hm⟩]
theorem whyC_eq {fc : Str → List Str} {n j : Nat} {lams : Nat → LamI} {tab : Nat → List D → Mu → Res D} {ds : List D} {μ : Mu} (hj : j < n) (hn : (lams j).num = j) (hc : noClos ds = true) (hm : μ.all plainM = true) : mWhyC fc n lams tab [.clo (lams j) ds] μ = mWhy fc (tab j ds) μ :=
  why_gen fc _ _ _ μ (ask_eq rfl hj hn hc hm)
/-! ### a list of closures, asked one by one -/
/-- the answers, when each ask leaves the store as it was -/
theorem whys_run {fc : Str → List Str} {n : Nat} {lams : Nat → LamI} {tab : Nat → List D → Mu → Res D} {μ : Mu} {i : Nat} {env : DEnv} (hi : i < env.length) (hm : μ.all plainM = true) : ∀ {qs : List (Nat × List D × D)},
    (∀ q ∈ qs, q.1 < n ∧ (lams q.1).num = q.1 ∧ noClos q.2.1 = true ∧ mWhy fc (tab q.1 q.2.1) μ = some (.val q.2.2, μ) ∧ nobor q.2.2 = true) →
      lcRun (tName i) dYes (dCall (fCall 1 (mWhyC fc n lams tab)) (dCons (dVar i) dNil)) env (qs.map fun q => .clo (lams q.1) q.2.1) μ = some (qs.map fun q => hold q.2.2, μ)
  | [], _ => rfl
  | q :: qs, h => by
    obtain ⟨q1, q2, q3, h1, h2⟩ := h q List.mem_cons_self
    have ih := whys_run hi hm fun q hq => h q (List.mem_cons_of_mem _ hq)
    rw [List.map_cons]
    unfold lcRun
    have e : (env.set i (.v (.clo (lams q.1) q.2.1)))[i]? = some (.v (.clo (lams q.1) q.2.1)) := by rw [List.getElem?_set_self hi]
    have e2 : dCall (fCall 1 (mWhyC fc n lams tab)) (dCons (dVar i) dNil) (env.set i (.v (.clo (lams q.1) q.2.1))) μ = some (.val q.2.2, μ) := by
      unfold dCall dCons dVar
      rw [e]
      simp only [bindR, Dv.ret, dNil, hold]
      unfold fCall
      rw [if_pos ⟨rfl, rfl⟩, whyC_eq q1 q2 q3 hm, h1]
    simp only [show tName i env (.clo (lams q.1) q.2.1) = some (env.set i (.v (.clo (lams q.1) q.2.1))) from rfl, show dYes (env.set i (.v (.clo (lams q.1) q.2.1))) μ = some (.val true, μ) from rfl, e2, h2, if_true, ih]
    rfl
end Dv

/-! DwZK: a comprehension in the frame whose lambdas it hands on: its block begins with the frame's cells tracked. -/
namespace Dv
open PySem PySem.Spec PyProof.Rows L2
section
variable {X : Cx} {pins : List (Addr × Obj)} {σ τ : L2.St} {H : Hp} {s s4 : Shared} {cl : List (Str × Addr)} {scope : Scope} {ce : Env} {fp : List Addr}
/-- the block's state, the cells put in -/
theorem blk_frz (hok : HOk X.prog X.w H s.heap) (CF : CelFree cl s.heap H) (nb : ∀ a, isCel cl a → X.base.get? a = none) (nf : ∀ a, isCel cl a → a ∉ frs X.stack) (nl : ¬ isCel cl ce.locals) (nc : ce.cells = [])
    (kp : ∀ b o, s.heap.get? b = some o → s4.heap.get? b = some o) (J : Inv (X.blk s H scope ce fp) [] τ H s4) : Inv (X.blk s (frzH cl s.heap H) scope ce fp) [] τ (frzH cl s.heap H) s4 := by
  have k := J.ok
  refine ⟨⟨k.mod, k.kind, k.glob, k.blt, k.above, k.inj, k.has, k.cab, k.hd, k.frames, k.stk, k.exf, fun b o e => ⟨(k.bs b o e).1, ?_⟩, k.bsz, k.noex, k.exfs, k.funs, fun b m => ?_⟩, J.os, J.bare, Un.kept kp, J.loc, J.cell, ?_, fun x c e => ?_, fun p hp => absurd (show p ∈ ([] : List (Addr × Obj)) ++ [] from hp) (by simp), (hok_frz CF hok).kept kp, J.len⟩
  · show frzH cl s.heap H b = none
    rw [frz_out fun c => by have := nb b c; rw [show X.base.get? b = some o from e] at this; cases this]
    exact (k.bs b o e).2
  · show frzH cl s.heap H b = none
    rw [frz_out fun c => nf b c m]
    exact k.frf b m
  · show frzH cl s.heap H ce.locals = none
    rw [frz_out nl]; exact J.free
  · have e : ce.cells.lookup x = some c := e
    rw [nc] at e
    cases e
theorem un_frzX {fs ex : List Addr} {h h2 : Heap} {H' : Hp} {P : Program} {w : World} (C : CelFree cl h H) (nf : ∀ a, isCel cl a → a ∉ fs) (x : Un fs ex (frzH cl h H) H' h h2) (ok : HOk P w H' h2) : Un fs ex H (unH cl H') h h2 where
  keep := fun b o e n hb hx => by
    by_cases c : isCel cl b
    · have := x.frzs b o _ (show frzH cl h H b = some (.frz o _) from frz_cel c e)
      exact (ok b _ this).1
    · exact x.keep b o e (by rw [frz_out c]; exact n) hb hx
  slot := fun b o e n hb hx => x.slot b o e (by rw [frz_out fun c => nf b c hb]; exact n) hb hx
  free := fun b o e n hx => by
    by_cases c : isCel cl b
    · exact un_cel c
    · rw [un_out c]; exact x.free b o e (by rw [frz_out c]; exact n) hx
  there := fun b o e hx => x.there b o e hx
  tups := fun b xs e => by rw [un_out (C.out e)]; exact x.tups b xs (by rw [frz_out (C.out e)]; exact e)
  frzs := fun b o u e => by rw [un_out (C.out e)]; exact x.frzs b o u (by rw [frz_out (C.out e)]; exact e)
  tbls := fun b ps e => by rw [un_out (C.out e)]; exact x.tbls b ps (by rw [frz_out (C.out e)]; exact e)
theorem celSet_afterX {fs ex : List Addr} {h h2 : Heap} {H' : Hp} (C : CelFree cl h H) (x : Un fs ex (frzH cl h H) H' h h2) : CelSet cl H' := ⟨fun a c => by
  obtain ⟨v, o, e1, e2⟩ := C.cell a c
  exact ⟨o, v, x.frzs a o _ (show frzH cl h H a = some (.frz o _) from frz_cel c e1), e2⟩⟩
end
/-- [elt for tg in iter], read with the cells put in from the block's start -/
def tLcZ (X : Cx) (wi : TI) (g : TG) (te : TE) (vs : List Nat) : TE := fun σ H Q => wi σ H fun J H1 => ∀ (D : Addr) (pins : List (Addr × Obj)) (s : Shared), H1 D = none → ¬ isCel X.env.cells D → Inv X pins σ (upd H1 D (.lst [])) s →
  ∃ W : Nat → Nat → Hp → Prop, (∃ m, W 0 m (frzH X.env.cells s.heap (upd H1 D (.lst [])))) ∧ ∀ i m H, W i m H →
    (J.stop i H ∧ (CelSet X.env.cells H → Q (.ref D) (unH X.env.cells H))) ∨ (J.go i H ∧ ∃ Nx : Hp → Prop, (∀ H', Nx H' → ∃ m', m' < m ∧ W (i + 1) m' H') ∧ ∀ x H', J.yld i H x H' → g x (wipe σ vs) H' fun σ2 H2 => wipe σ2 vs = wipe σ vs ∧
      te σ2 H2 fun y H4 => ∃ acc, H4 D = some (.lst acc) ∧ acc.length < sizeLine ∧ Nx (upd H4 D (.lst (acc ++ [y]))))
section
variable {X : Cx} {elt tg iter : Expr} {scope : Scope} {own : List (Str × Nat)} {pos : Pos} {wi : TI} {g : TG} {te : TE}
theorem cel_big {pins : List (Addr × Obj)} {σ : L2.St} {H : Hp} {s : Shared} (I : Inv X pins σ H s) (hfn : ∀ y a, X.env.cells.lookup y = some a → X.fn y = true) : (∀ b, isCel X.env.cells b → X.base.get? b = none) ∧ ∀ b, isCel X.env.cells b → b ∉ frs X.stack := by
  have big : ∀ b, isCel X.env.cells b → X.s_0.heap.objs.size ≤ b := fun b ⟨y, e⟩ => I.ok.cab y b (hfn y b e) e
  refine ⟨fun b c => Heap.get?_none_of_le (Nat.le_trans I.ok.bsz (big b c)), fun b c mm => ?_⟩
  rcases List.mem_cons.mp (I.stkSub b mm) with e | e
  · obtain ⟨y, ey⟩ := c
    exact I.cne y b ey e
  · obtain ⟨_, o, ho, _⟩ := I.ok.funs.mem e
    exact absurd (Nat.lt_of_lt_of_le (Heap.lt_size ho) (big b c)) (Nat.lt_irrefl _)
theorem cells_nil : ∀ {names : List (Str × NameKind)} {n : Nat}, (∀ y ∈ names, y.2 ≠ .free ∧ y.2 ≠ .cell) → ∀ cells : List (Str × Addr), cellsFrom n names (cloFrom cells names []) = [] := fun {names n} h cells => by
  match e : cellsFrom n names (cloFrom cells names []) with
  | [] => rfl
  | (x, c) :: r =>
    exfalso
    have none_ : cloFrom cells names [] = [] := by
      match e2 : cloFrom cells names [] with
      | [] => rfl
      | q :: r2 =>
        exfalso
        have m : q ∈ cloFrom cells names [] := by rw [e2]; exact List.mem_cons_self
        rcases cloFrom_mem (n := q.1) (c := q.2) m with z | ⟨z, _⟩
        · cases z
        · exact (h _ z).1 rfl
    rw [none_] at e
    have m : (x, c) ∈ cellsFrom n names [] := by rw [e]; exact List.mem_cons_self
    have key : ∀ (ns : List (Str × NameKind)) (k : Nat) (acc : List (Str × Addr)), (∀ y ∈ ns, y.2 ≠ .free ∧ y.2 ≠ .cell) → cellsFrom k ns acc = acc := by
      intro ns
      induction ns with
      | nil => intro k acc _; rfl
      | cons y ys ih =>
        intro k acc hh
        obtain ⟨y1, y2⟩ := y
        have := hh _ List.mem_cons_self
        unfold cellsFrom
        cases y2 <;> first | exact absurd rfl this.1 | exact absurd rfl this.2 | exact ih _ _ fun z hz => hh z (List.mem_cons_of_mem _ hz)
    rw [key names n [] h] at m
    cases m
theorem lc_runZ (hc : X.calm = true) (hN : X.N.Nodup) (hfn : ∀ y a, X.env.cells.lookup y = some a → X.fn y = true) (hi : PI X tg iter wi) (ok : BlkOk X.N X.env.scope scope own) (nof : ∀ y ∈ scope.names, y.2 ≠ .free ∧ y.2 ≠ .cell)
    (hg : ∀ (s : Shared) (H : Hp) (C : Addr) (cl : List (Str × Addr)) (fp : List Addr), PG (X.blk s H scope (compEnvC scope cl C X.env) fp) tg g)
    (he : ∀ (s : Shared) (H : Hp) (C : Addr) (cl : List (Str × Addr)) (fp : List Addr), PE (X.blk s H scope (compEnvC scope cl C X.env) fp) elt te) (hs : ∀ x, foldedSetIterable iter X.env x = pure x := by intro _; rfl) :
    PE X (.ListComp elt [⟨tg, iter, [], 0⟩] scope pos) (tLcZ X wi g te (own.map (·.2))) := by
  refine ⟨fun pins s σ H Q I h => ?_⟩
  rw [eval_ListComp]
  have clo : ∀ y ∈ scope.names, y.2 = .free → ∃ c, X.env.cells.lookup y.1 = some c := fun y hy e => absurd e (nof y hy).1
  refine wpAny_comprehension_free (use := none) rfl hs (closure_ok clo) ok.kind (fun y hy e => by rw [ok.uniq y hy, e]) (thn (hi.run pins s σ H _ I h) fun _ _ got => thn got fun itv sA arrived => ?_)
  obtain ⟨it, fp, tn, J, HA, eit, IA, walk, sat, alone, plan⟩ := arrived
  subst eit
  refine wpAny_newObj_type (newEnv_comp ?_) (by show 0 ≤ sizeLine; decide)
  generalize eD : sA.heap.objs.size = D
  have freeD : HA D = none := IA.hok.fresh (Nat.le_of_eq eD)
  generalize eB : ({ sA with heap := sA.heap.push { cls := .type "list", data := .seq ([] : List Value).toArray } } : Shared) = sB
  have hB : sB.heap = sA.heap.push { cls := .type "list", data := .seq ([] : List Value).toArray } := by rw [← eB]
  have IB : Inv X pins σ (upd HA D (.lst [])) sB := by
    rw [← eB]
    exact IA.laid (t' := sA.toks) (fun b o e => Heap.get?_push_of_some _ e) (Nat.le_of_eq eD) ⟨Nat.zero_le _, [], 0, .nil, by rw [← eD]; exact Heap.get?_push_size _ rfl⟩
  have celLt : ∀ {a : Addr}, isCel X.env.cells a → a < sA.heap.objs.size := fun {a} ⟨y, e⟩ => by
    obtain ⟨v, o, q, _⟩ := IA.cell y a e
    exact Heap.lt_size q
  have ncD : ¬ isCel X.env.cells D := fun c => by have := celLt c; rw [eD] at this; exact Nat.lt_irrefl _ this
  obtain ⟨W, ⟨m0, w0⟩, turn⟩ := plan D pins sB freeD ncD IB
  have fpB : ∀ b ∈ fp, FpOk X pins (upd HA D (.lst [])) b ∧ b < sB.heap.objs.size := fun b hb => by
    obtain ⟨o, q, _⟩ := walk.obj _ _ sat b hb
    have lt := Heap.lt_size q
    exact ⟨⟨by rw [upd_ne (fun e => by rw [e, eD] at lt; exact Nat.lt_irrefl _ lt)]; exact (alone b hb).1, (alone b hb).2⟩, by rw [hB, Heap.size_push]; exact Nat.lt_succ_of_lt lt⟩
  have blk := block_start IB ok hN fpB
  have CF := celFree_of IB
  obtain ⟨nb, nf⟩ := cel_big IB hfn
  have pg := hg sB (frzH X.env.cells sB.heap (upd HA D (.lst []))) sB.heap.objs.size (cellsFrom (sB.heap.objs.size + 1) scope.names (cloFrom X.env.cells scope.names [])) fp
  have pe := he sB (frzH X.env.cells sB.heap (upd HA D (.lst []))) sB.heap.objs.size (cellsFrom (sB.heap.objs.size + 1) scope.names (cloFrom X.env.cells scope.names [])) fp
  show codeAny _ _ (.compStart (.ListComp elt [⟨tg, iter, [], 0⟩] scope pos) 0 (.ref it) (.ref D) (compEnvC scope (cellsFrom (sB.heap.objs.size + 1) scope.names (cloFrom X.env.cells scope.names [])) sB.heap.objs.size X.env)) (compPost (model X.prog X.w) X.A X.xe none _ (.ref D) sB.heap.objs.size) { sB with heap := pushCells (sB.heap.push { cls := .type "dict", data := .dict #[] }) scope.names }
  generalize ece : compEnvC scope (cellsFrom (sB.heap.objs.size + 1) scope.names (cloFrom X.env.cells scope.names [])) sB.heap.objs.size X.env = ce at blk pg pe ⊢
  have ceL : ce.locals = sB.heap.objs.size := by rw [← ece]; rfl
  have ceC : ce.cells = [] := by rw [← ece]; exact cells_nil nof _
  generalize eC : ({ sB with heap := pushCells (sB.heap.push { cls := .type "dict", data := .dict #[] }) scope.names } : Shared) = sC at blk ⊢
  have grown : ∀ b o, sB.heap.get? b = some o → sC.heap.get? b = some o := fun b o e => by rw [← eC]; exact pushCells_keeps _ _ _ _ (Heap.get?_push_of_some _ e)
  have Z := blk_frz IB.hok CF nb nf (fun c => by rw [ceL] at c; have := celLt c; rw [hB, Heap.size_push] at this; exact Nat.lt_irrefl _ (Nat.lt_of_succ_lt this)) ceC grown blk
  have outfp : ∀ b ∈ fp, ¬ isCel X.env.cells b := fun b hb ⟨y, e⟩ => (alone b hb).2.2.2.2.1 y b e rfl
  obtain ⟨HZ, eHZ⟩ : ∃ HZ, frzH X.env.cells sB.heap (upd HA D (.lst [])) = HZ := ⟨_, rfl⟩
  have nfp : ∀ b ∈ fp, HZ b = none := fun b hb => by rw [← eHZ, frz_out (outfp b hb)]; exact (fpB b hb).1.1
  have unB : ∀ {ex : List Addr} {H' : Hp} {h2 : Heap}, Un (frs X.stack) ex HZ H' sB.heap h2 → HOk X.prog X.w H' h2 → CelSet X.env.cells H' ∧ Un (frs X.stack) ex (upd HA D (.lst [])) (unH X.env.cells H') sB.heap h2 := fun {ex H' h2} x hk => by
    rw [← eHZ] at x
    exact ⟨celSet_afterX CF x, un_frzX CF nf x hk⟩
  rw [eHZ] at Z pg pe w0
  have satC : tn 0 sC.heap := walk.keep _ _ _ sat fun b _ o e => grown b o (by rw [hB]; exact Heap.get?_push_of_some _ e)
  have still : ∀ {τ : L2.St} {H' : Hp} {s' : Shared}, Inv (X.blk sB HZ scope ce fp) [] τ H' s' → (∀ b ∈ fp, H' b = none) → ∀ b ∈ fp, FpOk (X.blk sB HZ scope ce fp) [] H' b := fun {τ H' s'} K n b hb =>
    ⟨n b hb, (K.ok.exf b hb).1, K.ok.exfs b hb, .inl hb, (K.ok.exf b hb).2, fun p hp => absurd (show p ∈ ([] : List (Addr × Obj)) ++ [] from hp) (by simp)⟩
  have loop : codeAny (model X.prog X.w) X.A (.compLoop (.ListComp elt [⟨tg, iter, [], 0⟩] scope pos) 0 (.ref it) (.ref D) ce) (compPost (model X.prog X.w) X.A X.xe none (EP X pins σ Q) (.ref D) sB.heap.objs.size) sC := by
    refine compLoop_any (fun n s' => ∃ i H', Inv (X.blk sB HZ scope ce fp) [] (wipe σ (own.map (·.2))) H' s' ∧ tn i s'.heap ∧ (∀ b ∈ fp, H' b = none) ∧ W i n H') ?_ m0 ⟨0, HZ, Z, satC, nfp, w0⟩
    rintro n s1 ⟨i, H1, I1, t1, n1, w1⟩
    rcases turn i n H1 w1 with ⟨halt, told⟩ | ⟨more, Nx, nxt, step⟩
    · refine thnF (walk.done (X.blk sB HZ scope ce fp) rfl rfl rfl hc i [] s1 _ H1 (fun _ _ => False) I1 (still I1 n1) t1 halt) fun r s2 ⟨er, I2⟩ => ?_
      subst er
      obtain ⟨CS, un⟩ := unB I2.base I2.hok
      have IX : Inv X pins σ (unH X.env.cells H1) s2 := IB.call' (ch := fp) I2.os un (hok_un CS I2.hok) I2.bare fun b hb => ⟨(fpB b hb).1.2.2.2.1, (fpB b hb).1.2.1, (fpB b hb).1.2.2.2.2.1, (fpB b hb).1.2.2.2.2.2⟩
      have nC : unH X.env.cells H1 sB.heap.objs.size = none := by
        have z : H1 ce.locals = none := I2.free
        rw [ceL] at z
        by_cases c : isCel X.env.cells sB.heap.objs.size
        · exact un_cel c
        · rw [un_out c]; exact z
      obtain ⟨m, hn, _⟩ := I2.loc
      have hn : s2.heap.Ns ce.locals m := hn
      rw [ceL] at hn
      obtain ⟨f0, f1, f2, f3, f4, f5⟩ := IB.fpOk (H' := unH X.env.cells H1) (Nat.le_refl _) nC
      exact ⟨m, hn, fun h'' sb => ⟨.ref D, _, IX.turned (t' := s2.toks) (fun b o hb e => (sb.2 b hb).trans e) f0 f1 f3 f4 f5, rfl, told CS⟩⟩
    · refine thnF (walk.item (X.blk sB HZ scope ce fp) rfl rfl rfl hc i [] s1 _ H1 (fun _ _ => False) I1 (still I1 n1) t1 more) fun r s2 ⟨u, er, rest⟩ => ?_
      subst er
      refine thnF rest fun _ s3 ⟨x, H3, I3, r3, y3, t3, n3⟩ => ?_
      have I3' := I3.pinned (still I3 n3) (walk.obj _ _ t3)
      refine thnF (pg.run _ s3 _ H3 x u _ I3' r3 (step x H3 y3)) fun _ s4 ⟨σ4, H4, I4, hw, q4⟩ => ?_
      refine thnF ((pts_nil (X := X.blk sB HZ scope ce fp)).run _ s4 σ4 H4 (fun b H' => b = true ∧ H' = H4) I4 ⟨rfl, rfl⟩) fun b s5 ⟨H5, I5, eb, e5⟩ => ?_
      subst eb
      rw [e5] at I5
      simp only [if_true]
      refine thnF (pe.run _ s5 σ4 H4 _ I5 q4) fun z s6 ⟨yv, H6, I6, r6, acc, a6, l6, nx⟩ => ?_
      refine app_ok (X := X.blk sB HZ scope ce fp) I6 a6 l6 r6 fun s7 I7 => ?_
      obtain ⟨m', hm, w'⟩ := nxt _ nx
      have held : ∀ b ∈ fp, ∀ o, s3.heap.get? b = some o → s7.heap.get? b = some o ∧ upd H6 D (.lst (acc ++ [yv])) b = none := fun b hb o e =>
        let z := I7.pin (b, o) (List.mem_append_right _ (List.mem_append_right _ (mem_pinsAt hb e)))
        ⟨z.1, z.2.1⟩
      refine ⟨m', hm, i + 1, _, (I7.unpinned (pins := [])).weak (by rw [← hw, wipe_length]) (fun j v e => ?_), walk.keep _ _ _ t3 fun b hb o e => (held b hb o e).1, fun b hb => ?_, w'⟩
      · rw [← hw] at e
        exact (wipe_some e).1
      · obtain ⟨o, e, _⟩ := walk.obj _ _ t3 b hb
        exact (held b hb o e).2
  exact codeAny_compStart_list loop (walk.self X.A 0 _ _ _ satC loop)
end
end Dv

/-! DwZL: the same at the level of deep values. -/
namespace Dv
open PySem PySem.Spec PyProof.Rows L2
section
variable {T : Tx} {B : Bs} {ρ : List Addr} {G H : Hp} {σ : L2.St} {env : DEnv} {μ : Mu} {cl : List (Str × Addr)} {h : Heap}
theorem unown_get {i : Nat} {s : SV} (e : (env.map unown)[i]? = some s) : (∀ l, s ≠ .own l) ∧ ∃ s0, env[i]? = some s0 ∧ s = unown s0 := by
  rw [List.getElem?_map] at e
  cases e0 : env[i]? with
  | none => rw [e0] at e; cases e
  | some s0 =>
    rw [e0] at e
    cases e
    exact ⟨fun l => by cases s0 <;> (intro z; cases z), s0, rfl, rfl⟩
/-- a block of its own, the cells put in -/
theorem RD.frzU (R : RD T B ρ G H σ env μ) (CF : CelFree cl h H) : RD T ⟨frzH cl h H, frzH cl h G, ρ, []⟩ ρ (frzH cl h G) (frzH cl h H) σ (env.map Dv.unown) μ := by
  refine ⟨gh_frz CF R.gh, .refl _ _ _, by rw [List.length_map]; exact R.len, fun i s e => ?_, fun i j l l' p e1 _ _ _ => absurd rfl ((unown_get e1).1 l), R.st.frz CF R.gh, fun q hq => absurd hq (by simp), by simp⟩
  obtain ⟨n, s0, e0, es⟩ := unown_get e
  have hs := R.slot i s0 e0
  cases s with
  | no => trivial
  | own l => exact absurd rfl (n l)
  | v d =>
    cases s0 with
    | no => cases es
    | own l => cases es
    | v d0 =>
      cases es
      obtain ⟨v, e1, r⟩ := hs
      exact ⟨v, e1, r.mono (same_frz CF R.gh) (.refl _)⟩
end
section
variable {X : Cx} {B : Bs} {W : WX} {pins : List (Addr × Obj)} {σ : L2.St} {H G : Hp} {s : Shared} {ρ : List Addr} {env : DEnv} {μ : Mu}
theorem cloD_to (I : Inv X pins σ H s) (R : RD (tx X) B ρ G H σ env μ) {d c : D} (h : cloD X.N X.env.scope X.env.cells env d = some c) {ρ' : List Addr} {G' : Hp} (sG : Same (frzH X.env.cells s.heap G) G') (p : Pre ρ ρ') {v : V} (r : Rep (tx X) ρ' G' v d) : Rep (tx X) ρ' G' v c := by
  have CF := celFree_of I
  have sm : Same G G' := (same_frz CF R.gh).trans sG
  unfold cloD at h
  split at h
  · rename_i cl L
    split at h
    · rename_i hc
      obtain ⟨hcl, hcap⟩ := hc
      split at h
      · rename_i ds e
        cases h
        unfold Rep at r
        obtain ⟨f, rfl, FA⟩ := r
        obtain ⟨vs, e1, rs⟩ := capD_ok R e
        unfold capsC at hcap
        simp only [Bool.and_eq_true, decide_eq_true_eq] at hcap
        have cp : NdefX.Caps X (cloFrom X.env.cells L.scope.names []) L.fr (jsOf X.N L.fr) := NdefX.Caps.made I.ok (NdefX.ndef_free hcap.1) (NdefX.ndef_fr hcap.1) hcap.2
        have CA := NdefX.cells_of I cp
        rw [e1] at CA
        have hl := CA.len
        rw [List.length_map] at hl
        unfold Rep
        refine ⟨f, cl, vs, rfl, FA, ⟨hl, fun y a e => ?_, by rw [hcl]; exact CA.inj, fun i y e => ?_⟩, rs.mono sm p⟩
        · rw [hcl] at e
          obtain ⟨_, v, o, e2, e3⟩ := CA.all y a e
          exact ⟨o, v, sG _ _ (frz_cel ⟨y, cp.sub y a e⟩ e2), e3⟩
        · obtain ⟨c, e2, e3⟩ := CA.has i y e
          have hi : i < vs.length := by rw [hl]; exact (List.getElem?_eq_some_iff.mp e).1
          obtain ⟨u, ru, o, e4, e5⟩ := e3 vs[i] (by rw [List.getElem?_map]; simp [hi])
          exact ⟨c, o, u, vs[i], by rw [hcl]; exact e2, sG _ _ (frz_cel ⟨y, cp.sub y c e2⟩ e4), e5, by simp [hi], ru⟩
      · cases h
    · cases h
  · cases h
theorem closD_len {N : List Str} {sc : Scope} {cells : List (Str × Addr)} : ∀ {l cs : List D}, closD N sc cells env l = some cs → cs.length = l.length
  | [], cs, h => by unfold closD at h; cases h; rfl
  | d :: l, cs, h => by
    unfold closD at h
    split at h
    · rename_i c cs' e1 e2
      cases h
      rw [List.length_cons, List.length_cons, closD_len e2]
    · cases h
theorem closD_get {N : List Str} {sc : Scope} {cells : List (Str × Addr)} : ∀ {l cs : List D} {i : Nat} {c : D}, closD N sc cells env l = some cs → cs[i]? = some c → ∃ d, l[i]? = some d ∧ cloD N sc cells env d = some c
  | [], cs, i, c, h, e => by unfold closD at h; cases h; simp at e
  | d :: l, cs, i, c, h, e => by
    unfold closD at h
    split at h
    · rename_i c0 cs' e1 e2
      cases h
      cases i with
      | zero => simp at e; subst e; exact ⟨d, rfl, e1⟩
      | succ i => obtain ⟨d', e3, e4⟩ := closD_get e2 (by simpa using e); exact ⟨d', by simpa using e3, e4⟩
    · cases h
/-! ### the comprehension -/
noncomputable def lcFinZ (N : List Str) (sc : Scope) (cells : List (Str × Addr)) (own : List Nat) (tg : DTg) (el : DEx) (env : DEnv) (ds : List D) (μ : Mu) : Res D := match closD N sc cells env ds with
  | some cs => (match lcRun tg dYes el (wipeD (env.map unown) own) cs μ with
    | some (l, μ1) => if noClos l = true ∧ μ1.all plainM = true then ret (.new l) μ1 else none
    | none => none)
  | none => none
noncomputable def dLcZ (N : List Str) (sc : Scope) (cells : List (Str × Addr)) (it : DEnv → Mu → Res (List D)) (own : List Nat) (tg : DTg) (el : DEx) : DEx := fun env μ => bindR (it env μ) (lcFinZ N sc cells own tg el env)
theorem noOwn_unown {vs : List Nat} : noOwn (env.map unown) vs = true := by
  unfold noOwn
  refine List.all_eq_true.mpr fun i _ => ?_
  split
  · rename_i l e
    exact absurd rfl ((unown_get e).1 _)
  · rfl
theorem rd_lcZ {J : It} {g : TG} {tg : DTg} {is : List Nat} {el : DEx} {vs : List Nat} {ρ1 : List Addr} {G1 H1 : Hp} {μ1 μf : Mu} {ds cs l : List D} {Q : VK} (gd : GD X.K X.mg g tg is) (his : ∀ i ∈ is, i ∈ vs)
    (R1 : RD (tx X) B ρ1 G1 H1 σ env μ1) (wk : WalkD (tx X) J ρ1 G1 ds) (hcs : closD X.N X.env.scope X.env.cells env ds = some cs) (hr : lcRun tg dYes el (wipeD (env.map unown) vs) cs μ1 = some (l, μf)) (hok : noClos l = true ∧ μf.all plainM = true)
    (fin : ∀ ρ' G' H' v, Same G1 G' → Pre ρ1 ρ' → RD (tx X) B ρ' G' H' σ env μf → RepX (tx X) B ρ' G' H' σ env v (.new l) → Q v H') (D : Addr) (pins : List (Addr × Obj)) (s : Shared) (hD : H1 D = none) (ncD : ¬ isCel X.env.cells D) (I : Inv X pins σ (upd H1 D (.lst [])) s) :
    ∃ W : Nat → Nat → Hp → Prop, (∃ m, W 0 m (frzH X.env.cells s.heap (upd H1 D (.lst [])))) ∧ ∀ i m H, W i m H →
      (J.stop i H ∧ (CelSet X.env.cells H → Q (.ref D) (unH X.env.cells H))) ∨ (J.go i H ∧ ∃ Nx : Hp → Prop, (∀ H', Nx H' → ∃ m', m' < m ∧ W (i + 1) m' H') ∧ ∀ x H', J.yld i H x H' → g x (wipe σ vs) H' fun σ2 H2 => wipe σ2 vs = wipe σ vs ∧
        exE (tx X) el σ2 H2 fun y H4 => ∃ acc, H4 D = some (.lst acc) ∧ acc.length < sizeLine ∧ Nx (upd H4 D (.lst (acc ++ [y])))) := by
  have len := closD_len hcs
  have Ra := R1.allocN (o := .lst []) hD
  have CFa := celFree_of I
  have CF : CelFree X.env.cells s.heap H1 := ⟨fun a c => by
    have hne : a ≠ D := fun e => ncD (by rw [← e]; exact c)
    have := CFa.none_ a c
    rw [upd_ne hne] at this
    exact this, CFa.cell⟩
  have eqH : frzH X.env.cells s.heap (upd H1 D (.lst [])) = upd (frzH X.env.cells s.heap H1) D (.lst []) := by
    funext b
    by_cases c : isCel X.env.cells b
    · have hne : b ≠ D := fun e => ncD (by rw [← e]; exact c)
      rw [upd_ne hne]
      obtain ⟨v, o, e, _⟩ := CF.cell b c
      rw [frz_cel c e, frz_cel c e]
    · rw [frz_out c]
      by_cases e : b = D
      · rw [e, upd_same, upd_same]
      · rw [upd_ne e, upd_ne e, frz_out c]
  have RZ := R1.frzU CF
  have hDZ : frzH X.env.cells s.heap H1 D = none := by rw [frz_out ncD]; exact hD
  obtain ⟨gD, pD, bD⟩ := RZ.fresh_ hDZ
  have no : noOwn (env.map unown) vs = true := noOwn_unown
  have Sg : Same G1 (frzH X.env.cells s.heap G1) := same_frz CF R1.gh
  refine ⟨fun i m H' => ∃ ρ' G' μ' us acc rest, m = ds.length - i ∧ i ≤ ds.length ∧ Same (frzH X.env.cells s.heap G1) G' ∧ Pre ρ1 ρ' ∧ RD (tx X) ((⟨frzH X.env.cells s.heap H1, frzH X.env.cells s.heap G1, ρ1, []⟩ : Bs).add D us) ρ' G' H' σ (env.map unown) μ' ∧ Reps (tx X) ρ' G' us acc ∧ acc.length ≤ i ∧ lcRun tg dYes el (wipeD (env.map unown) vs) (cs.drop i) μ' = some (rest, μf) ∧ acc ++ rest = l,
    ⟨ds.length, ρ1, _, μ1, [], [], l, by omega, Nat.zero_le _, fun _ _ h => h, .refl _, ?_, .nil, Nat.le_refl _, hr, rfl⟩, ?_⟩
  · rw [eqH]
    exact (RZ.allocN hDZ).addX upd_same gD pD bD (fun i l' e1 _ => absurd rfl ((unown_get e1).1 l')) fun q hq => absurd hq (by simp)
  · rintro i m H' ⟨ρ', G', μ', us, acc, rest, rfl, hi, sg, p, R, ra, la, hrun, hl⟩
    by_cases hlt : i < ds.length
    · have hd : ds[i]? = some ds[i] := by simp [hlt]
      have hltc : i < cs.length := by rw [len]; exact hlt
      obtain ⟨d1, ed1, hclo⟩ := closD_get hcs (show cs[i]? = some cs[i] by simp [hltc])
      rw [hd] at ed1
      cases ed1
      obtain ⟨jg, jy⟩ := wk.go i _ hd ρ' G' H' (Sg.trans sg) p R.gh
      refine .inr ⟨jg, fun H'' => ∃ ρ2 G2 μ2 us2 acc2 rest2, Same (frzH X.env.cells s.heap G1) G2 ∧ Pre ρ1 ρ2 ∧ RD (tx X) ((⟨frzH X.env.cells s.heap H1, frzH X.env.cells s.heap G1, ρ1, []⟩ : Bs).add D us2) ρ2 G2 H'' σ (env.map unown) μ2 ∧ Reps (tx X) ρ2 G2 us2 acc2 ∧ acc2.length ≤ i + 1 ∧ lcRun tg dYes el (wipeD (env.map unown) vs) (cs.drop (i + 1)) μ2 = some (rest2, μf) ∧ acc2 ++ rest2 = l,
        fun H'' ⟨ρ2, G2, μ2, us2, acc2, rest2, h1, h2, h3, h4, h5, h6, h7⟩ => ⟨ds.length - (i + 1), by omega, ρ2, G2, μ2, us2, acc2, rest2, rfl, hlt, h1, h2, h3, h4, h5, h6, h7⟩, fun x H'' hy => ?_⟩
      have item : H'' = H' ∧ Rep (tx X) ρ' G' x cs[i] := by
        rcases jy x H'' hy with ⟨e, r⟩ | ⟨q, ws, l', hn, e, ex, ed, r, z⟩
        · exact ⟨e, cloD_to I Ra hclo sg p r⟩
        · rw [ed] at hclo
          unfold cloD at hclo
          cases hclo
      obtain ⟨eH, rx⟩ := item
      subst eH
      rw [List.drop_eq_getElem_cons hltc] at hrun
      unfold lcRun at hrun
      split at hrun
      · cases hrun
      · rename_i env1 he1
        have hout := gd.out _ _ _ he1
        refine gd.ok _ ρ' G' H'' (wipe σ vs) (wipeD (env.map unown) vs) μ' x _ env1 _ (R.wipe vs) rx he1 fun σ2 R3 hw ho => ⟨by rw [hw vs his]; exact wipe_wipe, ?_⟩
        have agE : ∀ j, j ∉ vs → env1[j]? = (env.map unown)[j]? := fun j hj => by rw [hout j fun m => hj (his j m), wipeD_out hj]
        have agS : ∀ j, j ∉ vs → σ2[j]? = σ[j]? := fun j hj => by rw [ho j fun m => hj (his j m), wipe_out hj]
        have yes : dYes env1 μ' = some (.val true, μ') := rfl
        rw [yes] at hrun
        simp only at hrun
        split at hrun
        · rename_i d' μ3 he
          split at hrun
          · rename_i hb
            split at hrun
            · rename_i l3 μ4 hrest
              cases hrun
              refine ⟨_, ρ', G', env1, μ', R3, ?_⟩
              rw [he]
              intro ρ4 G4 H4 s4 p4 R5 y hy2
              obtain ⟨G5, s5, R6, hh⟩ := hy2.hold R5
              have ry := hh.rep (hold_nobor hb)
              have S : Same G' G5 := s4.trans s5
              have R7 := R.back R6 S p4 no agE agS
              have hD4 := R7.delX.2.1
              have hul : us.length = acc.length := ra.length
              refine ⟨us, hD4, szl_line' (by omega : us.length < ds.length) wk.sz, ρ4, G5, μ3, us ++ [y], acc ++ [Dv.hold d'], l3, sg.trans S, p.trans p4, R7.updX, (ra.mono S p4).append (.one ry), by simp; omega, hrest, by rw [← hl]; simp⟩
            · cases hrun
          · cases hrun
        · cases hrun
    · have e : i = ds.length := by omega
      subst e
      rw [show cs.drop ds.length = [] from by rw [← len]; exact List.drop_length] at hrun
      unfold lcRun at hrun
      cases hrun
      refine .inl ⟨wk.stop ρ' G' H' (Sg.trans sg) p R.gh, fun CS => ?_⟩
      obtain ⟨R0, h1, h2, h3, h4, h5, h6⟩ := R.delX
      rw [List.append_nil] at hl
      subst hl
      have CG : CelSet X.env.cells G' := (celSet_frz (G := G1) CF).mono sg
      have ex2 := Ext.un CF R1.gh R0.gh R0.ext
      have R2 := R1.after ex2 (same_un CS R0.gh) (R0.st.un CG hok.2)
      exact fin ρ' _ _ (.ref D) ex2.gg ex2.pre R2 (repX_after R1 ⟨D, us, rfl, by rw [un_out ncD]; exact h1, ra.un CG hok.1, Nat.le_trans la wk.sz, by rw [un_out ncD]; exact h2, h3, hD⟩)
theorem de_lcZ {elt tg iter : Expr} {scope : Scope} {own : List (Str × Nat)} {pos : Pos} {it : DEnv → Mu → Res (List D)} {g : TG} {t : DTg} {is : List Nat} {el : DEx}
    (hc : X.calm = true) (hN : X.N.Nodup) (hfn : ∀ y a, X.env.cells.lookup y = some a → X.fn y = true) (hi : DI X B W tg iter it) (ok : BlkOk X.N X.env.scope scope own) (nof : ∀ y ∈ scope.names, y.2 ≠ .free ∧ y.2 ≠ .cell) (gd : GD X.K X.mg g t is) (his : ∀ i ∈ is, i ∈ own.map (·.2))
    (hg : ∀ (s : Shared) (H : Hp) (C : Addr) (cl : List (Str × Addr)) (fp : List Addr), PG (X.blk s H scope (compEnvC scope cl C X.env) fp) tg g)
    (he : ∀ (s : Shared) (H : Hp) (C : Addr) (cl : List (Str × Addr)) (fp : List Addr) (B : Bs), DE (X.blk s H scope (compEnvC scope cl C X.env) fp) B W0 elt el) (hs : ∀ x, foldedSetIterable iter X.env x = pure x := by intro _; rfl) :
    DE X B W (.ListComp elt [⟨tg, iter, [], 0⟩] scope pos) (dLcZ X.N X.env.scope X.env.cells it (own.map (·.2)) t el) := by
  refine ⟨peImp (lc_runZ (te := exE (tx X) el) hc hN hfn hi.run ok nof hg (fun s H C cl fp => pe_ex (he s H C cl fp)) hs) fun σ H Q ⟨ρ, G, env, μ, R, k⟩ => ?_⟩
  refine ⟨ρ, G, env, μ, R, (KE.bind (f := lcFinZ X.N X.env.scope X.env.cells (own.map (·.2)) t el env) k).imp fun ρ1 G1 H1 μ1 ds s p R1 k1 J wk => ?_⟩
  unfold lcFinZ at k1
  split at k1
  · rename_i cs hcs
    split at k1
    · rename_i l μ2 hr
      split at k1
      · rename_i hok
        exact fun D pins s' hD ncD I => rd_lcZ gd his R1 wk hcs hr hok (fun ρ' G' H' v s' p' R' hv => k1 ρ' G' H' s' p' R' v hv) D pins s' hD ncD I
      · exact k1.elim
    · exact k1.elim
  · exact k1.elim
end
end Dv

/-! DwZM: a def whose meaning may speak of the cells of its own frame. -/
namespace Dv
open PySem PySem.Spec PyProof.Rows L2
/-- whatever the cells of its frame will be -/
def spL (T : Tx) (n : Nat) (m : List (Str × Addr) → Fn) : Sp := fun vs H Q E => vs.length = n ∧ ∃ ρ G ds μ, Same G H ∧ StR T ρ G H μ ∧ Reps T ρ G vs ds ∧ ∀ cells, KC T ρ G H Q E (m cells ds μ)
section
variable {P : Program} {w : World} {K : PySem.W.Frag} {mg : Str → Option Value} {base : Heap} {x qual : Str} {params : Arguments} {body : List Stmt} {scope : Scope} {fd : FuncData} {pl : Str × Option Str}
theorem def_okL {N ps : List Str} {k : Nat} {m : List (Str × Addr) → DSt} (F : FunD K x qual params body scope [] [] (He.fAd K pl) fd) (S : FnScope N ps scope)
    (hbody : ∀ (A : Around) (outer : List Env) (s : Shared) (H : Hp) (E : XK) (B : Bs), Room k (A.deeper (envOfC qual scope s.heap.objs.size (He.fAd K pl) (.ref (He.codeOf K pl)))) → DSs (cxOf (L2.CX P w) P w K mg base N qual scope (He.fAd K pl) (.ref (He.codeOf K pl)) A outer s H E) B (fun cls d _ H => E cls d H) body (m (envOfC qual scope s.heap.objs.size (He.fAd K pl) (.ref (He.codeOf K pl))).cells)) :
    FnOk P w K mg base (L2.CX P w) (k + 1) (He.fAd K pl) fd ps (spL ⟨K, mg⟩ ps.length fun cells => cleanD (defD N.length (m cells))) := by
  obtain ⟨oc, od, dV, kV, doc, pm, an, cdv, ct, osl, rfl, lk, hcd, _, _⟩ := F.ex
  obtain ⟨c, rfl⟩ := He.codeIn_ref hcd
  have ec : He.codeOf K pl = c := He.codeOf_eq lk rfl
  subst ec
  refine fn_of lk hcd S (fun vs H Q E h => h.1) fun A outer s H vs Q E hr h => ?_
  obtain ⟨hl, ρ, G, ds, μ, gh, st, rs, all⟩ := h
  have told := all (envOfC qual scope s.heap.objs.size (He.fAd K pl) (.ref (He.codeOf K pl))).cells
  refine ⟨_, (hbody A outer s H E ⟨H, G, ρ, []⟩ hr).run, ρ, G, envD N.length ds, μ, start_rd gh st rs, ?_⟩
  unfold cleanD defD at told
  simp only [] at told
  cases e : m (envOfC qual scope s.heap.objs.size (He.fAd K pl) (.ref (He.codeOf K pl))).cells (envD N.length ds) μ with
  | none => rw [e] at told; exact told.elim
  | some z =>
    obtain ⟨o, env', μ'⟩ := z
    rw [e] at told
    match o, told with
    | .exc y, told => exact fun σ' ρ' G' H' cls dd s p R er => told cls dd ρ' G' H' R.ext R.gh R.st er
    | .val .nx, told => exact fun σ' ρ' G' H' s p R => told .non ρ' G' H' R.ext R.gh R.st (show Rep _ _ _ _ _ from rep_non)
    | .val .brk, told => exact told.elim
    | .val .ct, told => exact told.elim
    | .val (.ret d), told =>
      have told : KC ⟨K, mg⟩ ρ G H Q E (if nobor d then some (.val d, μ') else none) := told
      split at told
      · rename_i clean
        exact fun σ' env2 ρ' G' H' v s p R hv => told v ρ' G' H' R.ext R.gh R.st (repO_of hv clean)
      · exact told.elim
end
section
variable {K : PySem.W.Frag} {mg : Str → Option Value}
theorem sp_startL {m : List (Str × Addr) → Fn} {H : Hp} {a : Addr} {ns : List Int} {qs : List ((Str × Option Str) × Str)} {ρ : List Addr} (hm : ∀ cells, ∃ μ', m cells [.scr (ns.map D.int)] (qs.map fun z => MObj.tab z.1 z.2) = some (.val (.bl true), μ')) (hl : ns.length ≤ 63)
    (hq : ρ = qs.map fun z => (He.cT K z.1).2) (nd : ρ.Nodup) (ht : ∀ p ∈ ρ, H p = some (.tbl #[])) (hS : SqL K H a (ns.map V.int)) :
    spL ⟨K, mg⟩ 1 m [.ref a] H (fun v _ => v = .bl true) (fun _ _ _ => False) := by
  refine ⟨rfl, ρ, but H ρ, [.scr (ns.map D.int)], qs.map (fun z => MObj.tab z.1 z.2), but_same, ⟨by rw [hq, List.length_map, List.length_map], nd, fun p hp => by unfold but; rw [if_pos hp], fun k o ho => ?_⟩, .cons ?_ .nil, ?_⟩
  · rw [List.getElem?_map] at ho
    cases e : qs[k]? with
    | none => rw [e] at ho; cases ho
    | some q =>
      rw [e] at ho; cases ho
      have hk : ρ[k]? = some (He.cT K q.1).2 := by rw [hq, List.getElem?_map, e]; rfl
      exact ⟨_, hk, rfl, #[], ht _ (List.mem_of_getElem? hk), True.intro, fun pos u hu => nomatch hu⟩
  · unfold Rep
    refine ⟨a, _, rfl, ?_, by rw [List.length_map]; exact Nat.le_trans hl (by decide), reps_ints ns⟩
    rcases hS with h | h
    · left
      have n : a ∉ ρ := fun z => by
        rcases h with h | ⟨o, h⟩ <;> (rw [ht a z] at h; cases h)
      have e : but H ρ a = H a := if_neg n
      unfold Rd
      rw [e]; exact h
    · right; exact h
  · intro cells
    obtain ⟨μ', hm⟩ := hm cells
    rw [hm]
    intro v ρ' G' H' _ _ _ h
    have h : Rep ⟨K, mg⟩ ρ' G' v (.bl true) := h
    unfold Rep at h; exact h
end
end Dv

/-! DwZN: f-strings; max, min of two ints. -/
namespace Dv
open PySem PySem.Spec PyProof.Rows L2
def fFmt : D → Mu → Res D
  | .str z, μ => if szl z.length then ret (.str z) μ else none
  | .int i, μ => if i.natAbs.log2 < 1920 then ret (.str (toString i)) μ else none
  | _, _ => none
def dFmt (m : DEx) : DEx := fun env μ => bindR (m env μ) fun d μ => fFmt (hold d) μ
def dJs : List DEx → Str → DEnv → Mu → Res D
  | [], acc, _, μ => ret (.str acc) μ
  | m :: ms, acc, env, μ => bindR (m env μ) fun d μ => match hold d with
    | .str y => if szl (acc ++ y).length then dJs ms (acc ++ y) env μ else none
    | _ => none
def dJoin (ms : List DEx) : DEx := dJs ms Str.empty
section
variable {X : Cx} {B : Bs} {W : WX} {e : Expr} {es : List Expr} {m : DEx} {ms : List DEx} {pos : Pos}
theorem de_fmt (h : DE X B W e m) : DE X B W (.FormattedValue e (-1) none pos) (dFmt m) := by
  refine ⟨peImp (pe_fmt h.run) fun σ H Q ⟨ρ, G, env, μ, R, k⟩ => ?_⟩
  refine rd_then (f := fun d μ => fFmt (hold d) μ) R k fun ρ1 G1 H1 μ1 x d s p R1 hx k1 => ?_
  unfold fFmt at k1
  split at k1
  · rename_i z e1
    rw [e1] at hx
    split at k1
    · rename_i hz
      exact .inl ⟨z, str_inv hx, szl_line hz, k1.here R1 (.ofR rep_str)⟩
    · exact k1.elim
  · rename_i i e1
    rw [e1] at hx
    split at k1
    · rename_i hz
      exact .inr ⟨i, int_inv hx, hz, k1.here R1 (.ofR rep_str)⟩
    · exact k1.elim
  · exact k1.elim
inductive DJ (X : Cx) (B : Bs) (W : WX) : List Expr → List DEx → Prop where
  | nil : DJ X B W [] []
  | cons {e : Expr} {m : DEx} {es : List Expr} {ms : List DEx} (h : DE X B W e m) (r : DJ X B W es ms) : DJ X B W (e :: es) (m :: ms)
theorem DJ.pj (h : DJ X B W es ms) : PJ X es (ms.map (rdE (tx X) B W)) := by
  induction h with
  | nil => exact .nil
  | cons a _ ih => exact .cons a.run ih
theorem tjs_of {Q : VK} {σ : L2.St} {env : DEnv} : ∀ (ms : List DEx) (acc : Str) (ρ : List Addr) (G H : Hp) (μ : Mu), RD (tx X) B ρ G H σ env μ → KE (tx X) B σ env W (PX (tx X) B σ env Q) ρ G (dJs ms acc env μ) → tJs (ms.map (rdE (tx X) B W)) acc σ H (fun out H1 => Q (.str out) H1)
  | [], acc, ρ, G, H, μ, R, k => k.here R (.ofR rep_str)
  | m :: ms, acc, ρ, G, H, μ, R, k => by
    show rdE (tx X) B W m σ H _
    refine rd_then (f := fun d μ => match hold d with
      | .str y => if szl (acc ++ y).length then dJs ms (acc ++ y) env μ else none
      | _ => none) R k fun ρ1 G1 H1 μ1 x d s p R1 hx k1 => ?_
    split at k1
    · rename_i y e1
      rw [e1] at hx
      split at k1
      · rename_i hz
        exact ⟨y, str_inv hx, szl_line hz, tjs_of ms (acc ++ y) ρ1 G1 H1 μ1 R1 k1⟩
      · exact k1.elim
    · exact k1.elim
theorem de_joined {v1 v2 : Expr} {rest : List Expr} (h : DJ X B W (v1 :: v2 :: rest) ms) : DE X B W (.JoinedStr (v1 :: v2 :: rest) pos) (dJoin ms) :=
  ⟨peImp (pe_joined h.pj) fun σ H Q ⟨ρ, G, env, μ, R, k⟩ => tjs_of ms Str.empty ρ G H μ R k⟩
theorem de_joined1 (h : DE X B W e m) : DE X B W (.JoinedStr [e] pos) m := ⟨pe_joined1 h.run⟩
end
end Dv

/-! DwZO: an instance of a class without an __init__. -/
namespace Dv
open PySem PySem.Spec PyProof.Rows L2
structure MkPl (K : PySem.W.Frag) (C : Addr) : Prop where
  makes : PySem.W.makesIn K C = true
  init : PySem.W.findIn K (.ref C) "__init__" = some (some (.builtin "object.__init__"))
  obj : PySem.W.subIn K (.ref C) (.type "object") = some true
  kp : PySem.W.keepIn K (.ref C) = true
theorem oi_kind : builtinKind "object.__init__" = some .slot := by kernel_rfl
theorem oi_split : splitId "object.__init__" = some ("object", "__init__") := by kernel_rfl
theorem oi_args (self : Value) : argsOk "object.__init__" ⟨[self], []⟩ := by unfold argsOk; kernel_rfl
theorem oi_run (a : Value) : Builtin.«object.__init__» ⟨[a], []⟩ = PySem.ret .none := by kernel_rfl
theorem oi_bind (self : Value) : bindSpecial (.builtin "object.__init__") self = pure (.builtin "object.__init__", [self]) := by kernel_rfl
theorem oi_plain : plainId "object.__init__" = true := by decide +kernel
section
variable {X : Cx} {pins : List (Addr × Obj)} {σ : L2.St} {H : Hp} {s : Shared} {Q : VK} {C : Addr}
theorem made_pl (M : MkPl X.K C) (I : Inv X pins σ H s) (q : ∀ x dx, H x = none → H dx = none → dx ≠ x → Q (.ref x) (upd (upd H dx (.own x)) x (.ins C dx []))) : wpAny (model X.prog X.w) X.A (call (.ref C) []) (EP X pins σ Q) X.xe s := by
  have n1 : H (s.heap.objs.size + 1) = none := I.hok.fresh (Nat.le_succ _)
  have n2 : H s.heap.objs.size = none := I.hok.fresh (Nat.le_refl _)
  have J := Inv.made (C := C) I
  have e2 : ((s.heap.push PySem.W.emptyDict).push (PySem.W.instObj C s.heap.objs.size)).get? (s.heap.objs.size + 1) = some (PySem.W.instObj C s.heap.objs.size) := by
    have := Heap.get?_push_size (s.heap.push PySem.W.emptyDict) (o := PySem.W.instObj C s.heap.objs.size) rfl
    rwa [Heap.size_push] at this
  have ty : PySem.W.Looks (model X.prog X.w) ((s.heap.push PySem.W.emptyDict).push (PySem.W.instObj C s.heap.objs.size)) (isInstance (.ref (s.heap.objs.size + 1)) (.type "object")) true :=
    (show PySem.W.Looks (model X.prog X.w) _ (typeOf (.ref (s.heap.objs.size + 1))) (.ref C) from (PySem.W.Looks.ld e2).andThen .now).andThen (PySem.W.looks_subIn J.kIn M.obj)
  refine wpAny_call (make_map0 I.kIn M.makes M.init (fun self => PySem.W.Looks.of_pure (oi_bind self)) ?_)
  refine codeAny_call_builtin oi_plain PySem.F.entry_object_init (@PySem.W.check_slot (model X.prog X.w) _ _ { s with heap := (s.heap.push PySem.W.emptyDict).push (PySem.W.instObj C s.heap.objs.size) } "object.__init__" "object" "__init__" (.ref (s.heap.objs.size + 1)) [] [] _ oi_kind oi_split ty (oi_args (.ref (s.heap.objs.size + 1))) ?_)
  rw [oi_run]
  refine wpAny_pure ?_
  exact ⟨rfl, .ref (s.heap.objs.size + 1), _, J, rfl, q _ _ n1 n2 (Nat.ne_of_lt (Nat.lt_succ_self _))⟩
end
def dPlain (c : Str) : DEx := fun _ μ => ret (.ins c []) μ
section
variable {X : Cx} {B : Bs} {W : WX} {p pos : Pos} {c : Str}
theorem de_makePl (M : ∃ C, X.mg c = some (.ref C) ∧ MkPl X.K C) (hg : Gl X c) (hdb : (c == ("__debug__" : Str)) = false := by decide) : DE X B W (.Call (.Name c p) [] [] pos) (dPlain c) := by
  obtain ⟨C, hm, M⟩ := M
  refine ⟨⟨fun pins s σ H Q I ⟨ρ, G, env, μ, R, k⟩ => ?_⟩⟩
  apply wpAny_Call_Name_kw (ld_glob I hg hm ?_ hdb)
  refine PySem.W.callWith_K0 I.kIn M.kp (made_pl M I fun x dx nx nd ne => ?_)
  have R1 := R.alloc (o := .own x) nd
  have nx1 : upd H dx (.own x) x = none := by rw [upd_ne (Ne.symm ne)]; exact nx
  have R2 := R1.alloc (o := .ins C dx []) nx1
  have s1 := same_upd (o := HO.own x) (R.fresh_ nd).1
  have s2 := same_upd (o := HO.ins C dx []) (R1.fresh_ nx1).1
  refine k ρ _ _ (s1.trans s2) (.refl _) R2 (.ref x) (.ofR ?_)
  unfold Rep
  exact ⟨x, C, dx, [], rfl, hm, upd_same, by unfold RepF; rfl⟩
end
end Dv

/-! DwZP: max of two ints. -/
namespace Dv
open PySem PySem.Spec PyProof.Rows L2
def fMax2 : FA
  | [.int i, .int j], μ => ret (.int (if j > i then j else i)) μ
  | _, _ => none
section
variable {X : Cx}
theorem ca_max2 : CallD (tx X) (fun xs H Q => ∃ i j, xs = [.int i, .int j] ∧ Q (.int (if j > i then j else i)) H) fMax2 := by
  intro B W σ env ρ G H μ vs ds Q R h k
  unfold fMax2 at k
  split at k
  · obtain ⟨v, u, rfl, hv, hu⟩ := hreps2 h
    exact ⟨_, _, by rw [int_inv hv, int_inv hu], k.here R (.ofR rep_int)⟩
  · exact k.elim
end
end Dv

/-! DwZQ: methods and properties by a table of classes; a staticmethod; isinstance of instances; own == and repr; making with keywords. -/
namespace Dv
open PySem PySem.Spec PyProof.Rows L2
/-! ### methods, by the class of the object -/
structure MethT (P : Program) (w : World) (K : PySem.W.Frag) (mg : Str → Option Value) (base : Heap) (m : Str) (n k : Nat) (tbl : List (Str × Fn)) : Prop where
  ok : ∀ c fn, tbl.lookup c = some fn → ∃ ps j, ps.length = n ∧ j ≤ k ∧ MethC P w K mg base c m ps j fn
def dMethT (m : Str) (n : Nat) (tbl : List (Str × Fn)) (mo : DEx) (na : DEnv → Mu → Res (List D)) : DEx := fun env μ => bindR (mo env μ) fun d μ => match fldsOf μ (hold d) with
  | some (c, fs) => (match tbl.lookup c with
    | some fn => if (fs.lookup m).isNone = true then bindR (na env μ) fun ds μ => fCall n fn (hold d :: ds) μ else none
    | none => none)
  | none => none
section
variable {X : Cx} {B : Bs} {W : WX} {e o : Expr} {es : List Expr} {p pos apos : Pos}
theorem de_methT {m : Str} {n k : Nat} {tbl : List (Str × Fn)} {mo : DEx} {na : DEnv → Mu → Res (List D)} {pl : Sem Bool} (M : MethT X.prog X.w X.K X.mg X.base m n k tbl) (hr : Room k X.A) (tk : Takes X W) (ho : DE X B W o mo) (ha : DA X B W (e :: es) na)
    (he : starEach (e :: es) X.env = (false, eval e X.env) :: starEach es X.env := by rfl) (hpl : (backTo pos (starEach es X.env)).any (·.1) = false := by rfl) (ht : methTree X o m apos pos (e :: es) pl := by rfl) :
    DE X B W (.Call (.Attribute o m apos) (e :: es) [] pos) (dMethT m n tbl mo na) := by
  refine ⟨⟨fun pins s σ H Q I ⟨ρ, G, env, μ, R, k⟩ => ?_⟩⟩
  refine methcall_of ho.run I ?_ ht
  refine rd_then (f := fun d μ => match fldsOf μ (hold d) with
    | some (c, fs) => (match tbl.lookup c with
      | some fn => if (fs.lookup m).isNone = true then bindR (na env μ) fun ds μ => fCall n fn (hold d :: ds) μ else none
      | none => none)
    | none => none) R k fun ρ1 G1 H1 μ1 x d s p R1 hx k1 => ?_
  split at k1
  · rename_i c fs hf
    split at k1
    · rename_i fn htb
      obtain ⟨ps, j, hn, hj, MC⟩ := M.ok c fn htb
      subst hn
      obtain ⟨C, g, fd, hm, cl, me, hb, F⟩ := MC.ex
      split at k1
      · rename_i hc
        have hl : fs.lookup m = none := Option.isNone_iff_eq_none.mp hc
        obtain ⟨a, C', dx, vf, rfl, hm', ea, rf⟩ := inst_inv R1 hx hf
        have hm' : X.mg c = some (.ref C') := hm'
        rw [hm] at hm'; cases hm'
        refine ⟨a, C, dx, vf, g, rfl, ea, cl, me, rf.none hl, fun s1 I1 => ?_⟩
        apply PySem.W.callWith_K (first := [.ref a]) (h₀ := X.base) I.ok.mod.kin me.kp ?_ he hpl
        refine thn (ha.run.run pos pins s1 σ H1 (fun vs H2 => ∃ ρ2 G2 ds μ2, RD (tx X) B ρ2 G2 H2 σ env μ2 ∧ HReps (tx X) ρ2 G2 σ env vs ds ∧ HeldR (tx X) ρ2 G2 σ env (.ref a) (hold d) ∧ KE (tx X) B σ env W (PX (tx X) B σ env Q) ρ2 G2 (fCall ps.length fn (hold d :: ds) μ2)) I1 ⟨ρ1, G1, env, μ1, R1, (KE.bind (f := fun ds μ => fCall ps.length fn (hold d :: ds) μ) k1).imp fun ρ2 G2 H2 μ2 ds s2 p2 R2 k2 vs hvs => ⟨ρ2, G2, ds, μ2, R2, hvs, hx.mono s2 p2, k2⟩⟩) fun us s2 ⟨vs, H2, I2, rel, ρ2, G2, ds, μ2, R2, hvs, hx2, k2⟩ => ⟨I2.kIn, ?_⟩
        have told := sp_call R2 (.cons hx2 hvs) k2
        have told : spD (tx X) ps.length fn ((.ref a :: vs) ++ []) H2 Q (fun cls d H => W cls d σ H) := by rw [List.append_nil]; exact told
        exact run_fnSD (us := .ref a :: us) (vs := .ref a :: vs) (E := fun σ cls d H => W cls d σ H) F (hr.mono hj) hb .nil (passAt tk σ) I2 (.cons rfl rel) told
      · exact k1.elim
    · exact k1.elim
  · exact k1.elim
theorem de_methT0 {m : Str} {n k : Nat} {tbl : List (Str × Fn)} {mo : DEx} {pl : Sem Bool} (M : MethT X.prog X.w X.K X.mg X.base m n k tbl) (hr : Room k X.A) (tk : Takes X W) (ho : DE X B W o mo) (ht : methTree X o m apos pos [] pl := by rfl) :
    DE X B W (.Call (.Attribute o m apos) [] [] pos) (dMethT m n tbl mo dNil) := by
  refine ⟨⟨fun pins s σ H Q I ⟨ρ, G, env, μ, R, k⟩ => ?_⟩⟩
  refine methcall_of ho.run I ?_ ht
  refine rd_then (f := fun d μ => match fldsOf μ (hold d) with
    | some (c, fs) => (match tbl.lookup c with
      | some fn => if (fs.lookup m).isNone = true then bindR (dNil env μ) fun ds μ => fCall n fn (hold d :: ds) μ else none
      | none => none)
    | none => none) R k fun ρ1 G1 H1 μ1 x d s p R1 hx k1 => ?_
  split at k1
  · rename_i c fs hf
    split at k1
    · rename_i fn htb
      obtain ⟨ps, j, hn, hj, MC⟩ := M.ok c fn htb
      subst hn
      obtain ⟨C, g, fd, hm, cl, me, hb, F⟩ := MC.ex
      split at k1
      · rename_i hc
        have hl : fs.lookup m = none := Option.isNone_iff_eq_none.mp hc
        obtain ⟨a, C', dx, vf, rfl, hm', ea, rf⟩ := inst_inv R1 hx hf
        have hm' : X.mg c = some (.ref C') := hm'
        rw [hm] at hm'; cases hm'
        refine ⟨a, C, dx, vf, g, rfl, ea, cl, me, rf.none hl, fun s1 I1 => ?_⟩
        have k2 : KE (tx X) B σ env W (PX (tx X) B σ env Q) ρ1 G1 (fCall ps.length fn [hold d] μ1) := k1
        have told := sp_call R1 (.cons hx .nil) k2
        have told : spD (tx X) ps.length fn ([.ref a] ++ []) H1 Q (fun cls d H => W cls d σ H) := told
        exact PySem.W.callWith_K0 (first := [.ref a]) I1.kIn me.kp (run_fnSD (us := [.ref a]) (vs := [.ref a]) (E := fun σ cls d H => W cls d σ H) F (hr.mono hj) hb .nil (passAt tk σ) I1 (.cons rfl .nil) told)
      · exact k1.elim
    · exact k1.elim
  · exact k1.elim
/-! ### properties, by the class of the object -/
structure PropT (P : Program) (w : World) (K : PySem.W.Frag) (mg : Str → Option Value) (base : Heap) (f : Str) (k : Nat) (tbl : List (Str × Fn)) : Prop where
  ok : ∀ c fn, tbl.lookup c = some fn → ∃ j, j ≤ k ∧ PropC P w K mg base c f j fn
def dPropT (tbl : List (Str × Fn)) (mo : DEx) : DEx := fun env μ => bindR (mo env μ) fun d μ => match fldsOf μ (hold d) with
  | some (c, _) => (match tbl.lookup c with
    | some fn => fCall 1 (valOnly fn) [hold d] μ
    | none => none)
  | none => none
theorem de_propT {f : Str} {k : Nat} {tbl : List (Str × Fn)} {mo : DEx} (M : PropT X.prog X.w X.K X.mg X.base f k tbl) (hr : Room (k + 1) X.A) (ho : DE X B W o mo) (plain : attributeBase o f X.env (eval o X.env) = eval o X.env := by rfl) : DE X B W (.Attribute o f pos) (dPropT tbl mo) := by
  refine ⟨⟨fun pins s σ H Q I ⟨ρ, G, env, μ, R, k⟩ => ?_⟩⟩
  -- the class decides the rule
  suffices h : PE X (.Attribute o f pos) (fun σ H Q => rdE (tx X) B W mo σ H fun x H1 => ∃ a C dx vf p g fd ps fn j, x = .ref a ∧ H1 a = some (.ins C dx vf) ∧ j ≤ _ ∧ Cls X.K C ∧ PropOf X.K C f p g ∧ ps.length = 1 ∧ Binds X.K fd ps [] ∧ FnOk X.prog X.w X.K X.mg X.base (L2.CX X.prog X.w) j g fd ps (spD (tx X) 1 fn) ∧ spD (tx X) 1 fn [.ref a] H1 Q (fun _ _ _ => False)) from
    h.run pins s σ H Q I (rd_then (f := fun d μ => match fldsOf μ (hold d) with
      | some (c, _) => (match tbl.lookup c with
        | some fn => fCall 1 (valOnly fn) [hold d] μ
        | none => none)
      | none => none) R k fun ρ1 G1 H1 μ1 x d s p R1 hx k1 => by
        split at k1
        · rename_i c fs hf
          split at k1
          · rename_i fn htb
            obtain ⟨j, hj, MC⟩ := M.ok c fn htb
            obtain ⟨C, p, g, fd, ps, hm, cl, pr, hn, hb, F⟩ := MC.ex
            obtain ⟨a, C', dx, vf, rfl, hm', ea, rf⟩ := inst_inv R1 hx hf
            have hm' : X.mg c = some (.ref C') := hm'
            rw [hm] at hm'; cases hm'
            refine ⟨a, C, dx, vf, p, g, fd, ps, fn, j, rfl, ea, hj, cl, pr, hn, hb, F, ?_⟩
            unfold fCall at k1
            split at k1
            · rename_i h
              have r := (HReps.cons hx .nil).reps h.2
              refine ⟨rfl, ρ1, G1, [hold d], μ1, R1.gh, R1.st, r, ?_⟩
              unfold valOnly at k1
              cases hq : fn [hold d] μ1 with
              | none => rw [hq] at k1; exact k1.elim
              | some z =>
                obtain ⟨o', μ2⟩ := z
                rw [hq] at k1
                cases o' with
                | exc y => exact k1.elim
                | val d' => exact fun v ρ' G' H' ex gh st ro => k1 ρ' G' H' ex.gg ex.pre (R1.after ex gh st) v (repX_after R1 ro)
            · exact k1.elim
          · exact k1.elim
        · exact k1.elim)
  refine ⟨fun pins s σ H Q I h => ?_⟩
  refine attr_of plain (thn (ho.run.run pins s σ H _ I h) fun u s1 ⟨x, H1, I1, rx, a, C, dx, vf, p, g, fd, ps, fn, j, ex, ea, hj, cl, pr, hn, hb, F, q⟩ => ?_)
  subst ex
  obtain rfl : u = Value.ref a := rx
  exact getprop_ok (E := fun _ _ _ => False) (ds := []) (dvs := []) I1 ea cl pr F (hr.mono (Nat.succ_le_succ hj)) hb .nil (fun pins σ H s er s' I z => by obtain ⟨_, _, _, _, _, _, _, _, _, _, _, _, q⟩ := z; exact q.elim) q
end
end Dv

/-! DwZR: a staticmethod; isinstance of instances; own ==, != and repr; is of bools. -/
namespace Dv
open PySem PySem.Spec PyProof.Rows L2
/-! ### a staticmethod read off its class -/
structure StatC (P : Program) (w : World) (K : PySem.W.Frag) (mg : Str → Option Value) (base : Heap) (c m : Str) (ps : List Str) (k : Nat) (fn : Fn) : Prop where
  ex : ∃ (C p g : Addr) (fd : FuncData), mg c = some (.ref C) ∧ ClX.CRead K C (.type "type") ∧ PySem.W.findCls K (.ref C) (.type "type") m = some (.get (.builtin "staticmethod.__get__") (.ref p) .none (.ref C)) ∧ (∃ rest, PySem.W.recIn K p "staticmethod" = some (.ref g :: rest)) ∧
    PySem.W.keepIn K (.ref g) = true ∧ Binds K fd ps [] ∧ FnOk P w K mg base (L2.CX P w) k g fd ps (spD ⟨K, mg⟩ ps.length fn)
section
variable {X : Cx} {B : Bs} {W : WX} {e o : Expr} {es : List Expr} {p pos apos p0 : Pos}
theorem de_stat {c m : Str} {ps : List Str} {k n : Nat} {fn : Fn} {na : DEnv → Mu → Res (List D)} {pl : Sem Bool} (M : StatC X.prog X.w X.K X.mg X.base c m ps k fn) (hr : Room k X.A) (tk : Takes X W) (hg : Gl X c) (ha : DA X B W (e :: es) na) (hn : ps.length = n := by rfl)
    (hdb : (c == ("__debug__" : Str)) = false := by decide) (he : starEach (e :: es) X.env = (false, eval e X.env) :: starEach es X.env := by rfl) (hpl : (backTo pos (starEach es X.env)).any (·.1) = false := by rfl) (ht : methTree X (.Name c p0) m apos pos (e :: es) pl := by rfl) :
    DE X B W (.Call (.Attribute (.Name c p0) m apos) (e :: es) [] pos) (dCall (fCall n fn) na) := by
  subst hn
  obtain ⟨C, p, g, fd, hm, rd, at_, ⟨rest, hrec⟩, kp, hb, F⟩ := M.ex
  refine ⟨⟨fun pins s σ H Q I ⟨ρ, G, env, μ, R, k⟩ => ?_⟩⟩
  refine PySem.W.methodCall_KW (pl := pl) (thn ((pe_glob (v := .ref C) hg hm rfl hdb).run pins s σ H (fun v H' => v = .ref C ∧ H' = H) I ⟨rfl, rfl⟩) fun u s1 ⟨x, H1, I1, rx, ex, eH⟩ => ?_) ht
  subst ex eH
  obtain rfl : u = Value.ref C := rx
  refine PySem.W.method_cls I1.kIn rd.ga ?_
  refine PySem.W.cls_bind I1.kIn rd.rd at_ ?_
  refine wpAny_call (PySem.W.sm_get (s := { s1 with toks := s1.toks + 1 }) I1.kIn hrec (PySem.W.handed_on rfl ?_))
  have I2 : Inv X pins σ H1 { s1 with toks := s1.toks + 1 } := I1.tok (s1.toks + 1)
  apply PySem.W.callWith_K (first := []) (h₀ := X.base) I.ok.mod.kin kp ?_ he hpl
  refine thn (ha.run.run pos pins _ σ H1 (fun vs H2 => ∃ ρ2 G2 ds μ2, RD (tx X) B ρ2 G2 H2 σ env μ2 ∧ HReps (tx X) ρ2 G2 σ env vs ds ∧ KE (tx X) B σ env W (PX (tx X) B σ env Q) ρ2 G2 (fCall ps.length fn ds μ2)) I2 ⟨ρ, G, env, μ, R, (KE.bind (f := fCall ps.length fn) k).imp fun ρ2 G2 H2 μ2 ds s2 p2 R2 k2 vs hvs => ⟨ρ2, G2, ds, μ2, R2, hvs, k2⟩⟩) fun us s2 ⟨vs, H2, I3, rel, ρ2, G2, ds, μ2, R2, hvs, k2⟩ => ⟨I3.kIn, ?_⟩
  have told := sp_call R2 hvs k2
  have told : spD (tx X) ps.length fn (vs ++ []) H2 Q (fun cls d H => W cls d σ H) := by rw [List.append_nil]; exact told
  exact run_fnSD (us := us) (vs := vs) (E := fun σ cls d H => W cls d σ H) F hr hb .nil (passAt tk σ) I3 rel told
end
/-! ### isinstance of instances -/
structure InsI (K : PySem.W.Frag) (C : Addr) : Prop where
  cl : Cls K C
  ca : PySem.W.findIn K (.ref C) "__class__" = some (some (.builtin "object.__class__"))
  cn : PySem.W.specialIn K (.builtin "object.__class__") "__get__" = some (some (.builtin "getset_descriptor.__get__"))
  ct : PySem.W.takesIn K (.builtin "object.__class__") = some true
  cm : PySem.W.mroIn K C (.type "object") = some true
def insIB (c : Str) : PySem.W.Frag → Bool := fun K => (He.Fa.cls c).ok K && (decide (PySem.W.findIn K (.ref (He.ga K c)) "__class__" = some (some (.builtin "object.__class__"))) && (decide (PySem.W.specialIn K (.builtin "object.__class__") "__get__" = some (some (.builtin "getset_descriptor.__get__"))) && (decide (PySem.W.takesIn K (.builtin "object.__class__") = some true) && decide (PySem.W.mroIn K (He.ga K c) (.type "object") = some true))))
theorem insIB_ok {c : Str} {K : PySem.W.Frag} (h : insIB c K = true) : InsI K (He.ga K c) := by
  unfold insIB at h
  simp only [Bool.and_eq_true, decide_eq_true_eq] at h
  exact ⟨He.cls_ok h.1, h.2.1, h.2.2.1, h.2.2.2.1, h.2.2.2.2⟩
abbrev okTys : List String := ["int", "bool", "str", "tuple", "list"]
abbrev inTys : List String := ["NoneType", "bool", "int", "str", "tuple", "list"]
structure IsiO (K : PySem.W.Frag) (mg : Str → Option Value) (cs xs : List Str) (anc : Str → List Str) : Prop where
  ok : ∀ c ∈ cs, ∃ C : Addr, mg c = some (.ref C) ∧ InsI K C ∧ (∀ x ∈ xs, ∃ D : Addr, mg x = some (.ref D) ∧ PySem.W.kitOne K (.ref C) (.ref D) = some (decide (x ∈ anc c))) ∧ ∀ t ∈ okTys, PySem.W.kitOne K (.ref C) (.type t) = some false
  ty : ∀ x ∈ xs, ∃ D : Addr, mg x = some (.ref D) ∧ ∀ a ∈ inTys, PySem.W.kitOne K (.type a) (.ref D) = some false
def isiOB (cs xs : List Str) (anc : Str → List Str) : PySem.W.Frag → Bool := fun K =>
  (cs.all fun c => insIB c K && ((xs.all fun x => decide (PySem.W.kitOne K (.ref (He.ga K c)) (.ref (He.ga K x)) = some (decide (x ∈ anc c)))) && okTys.all fun t => decide (PySem.W.kitOne K (.ref (He.ga K c)) (.type t) = some false))) &&
  xs.all fun x => inTys.all fun a => decide (PySem.W.kitOne K (.type a) (.ref (He.ga K x)) = some false)
theorem isiOB_ok {K : PySem.W.Frag} {mg : Str → Option Value} {cs xs : List Str} {anc : Str → List Str} (h : isiOB cs xs anc K = true) (hc : ∀ c ∈ cs, mg c = some (.ref (He.ga K c))) (hx : ∀ x ∈ xs, mg x = some (.ref (He.ga K x))) : IsiO K mg cs xs anc := by
  unfold isiOB at h
  rw [Bool.and_eq_true] at h
  refine ⟨fun c hcs => ?_, fun x hxs => ⟨_, hx x hxs, fun a ha => of_decide_eq_true (List.all_eq_true.mp (List.all_eq_true.mp h.2 x hxs) a ha)⟩⟩
  have q := List.all_eq_true.mp h.1 c hcs
  simp only [Bool.and_eq_true] at q
  exact ⟨_, hc c hcs, insIB_ok q.1, fun x hxs => ⟨_, hx x hxs, of_decide_eq_true (List.all_eq_true.mp q.2.1 x hxs)⟩, fun t ht => of_decide_eq_true (List.all_eq_true.mp q.2.2 t ht)⟩
def fIsiO (cs xs : List Str) (anc : Str → List Str) : FA
  | [d, .glo x], μ => (match fldsOf μ d with
    | some (c, _) => if c ∈ cs ∧ x ∈ xs then ret (.bl (decide (x ∈ anc c))) μ else none
    | none => (match tyN d with
      | some _ => if x ∈ xs then ret (.bl false) μ else none
      | none => none))
  | [d, .ty t], μ => (match fldsOf μ d with
    | some (c, _) => if c ∈ cs ∧ okTy t = true then ret (.bl false) μ else none
    | none => none)
  | _, _ => none
section
variable {X : Cx} {B : Bs} {W : WX}
theorem okTy_mem {t : String} (h : okTy t = true) : t ∈ okTys := by unfold okTy at h; simpa using h
theorem ca_isiO {cs xs : List Str} {anc : Str → List Str} (F : IsiO X.K X.mg cs xs anc) : CallD (tx X) (rIsi X.K) (fIsiO cs xs anc) := by
  intro B W σ env ρ G H μ vs ds Q R h k
  unfold fIsiO at k
  split at k
  · rename_i d x
    obtain ⟨v, u, rfl, hv, hu⟩ := hreps2 h
    have hu : Rep (tx X) ρ G u (.glo x) := hu
    unfold Rep at hu
    obtain ⟨D', rfl, hD'⟩ := hu
    have hD' : X.mg x = some (.ref D') := hD'
    split at k
    · rename_i c fs hf
      split at k
      · rename_i hc
        obtain ⟨a, C, dx, vf, rfl, hm, ea, _⟩ := inst_inv R hv hf
        obtain ⟨C', hm', T, own, _⟩ := F.ok _ hc.1
        have hm : X.mg c = some (.ref C) := hm
        rw [hm] at hm'; cases hm'
        obtain ⟨D, hD, e⟩ := own _ hc.2
        rw [hD] at hD'; cases hD'
        exact ⟨_, _, _, _, _, rfl, .own _, .base (.ins ea T.cl T.ca T.cn T.ct T.cm), e, k.here R (.ofR rep_bl)⟩
      · exact k.elim
    · split at k
      · rename_i a ha
        split at k
        · rename_i hx
          obtain ⟨D, hD, e⟩ := F.ty _ hx
          rw [hD] at hD'; cases hD'
          exact ⟨_, _, _, _, _, rfl, .own _, tyX_of R hv ha, e a (tyN_mem ha), k.here R (.ofR rep_bl)⟩
        · exact k.elim
      · exact k.elim
  · rename_i d t
    obtain ⟨v, u, rfl, hv, hu⟩ := hreps2 h
    have hu : Rep (tx X) ρ G u (.ty t) := hu
    unfold Rep at hu
    subst hu
    split at k
    · rename_i c fs hf
      split at k
      · rename_i hc
        obtain ⟨a, C, dx, vf, rfl, hm, ea, _⟩ := inst_inv R hv hf
        obtain ⟨C', hm', T, _, own⟩ := F.ok _ hc.1
        have hm : X.mg c = some (.ref C) := hm
        rw [hm] at hm'; cases hm'
        exact ⟨_, _, _, _, _, rfl, .ty t, .base (.ins ea T.cl T.ca T.cn T.ct T.cm), own t (okTy_mem hc.2), k.here R (.ofR rep_bl)⟩
      · exact k.elim
    · exact k.elim
  · exact k.elim
theorem isiO_ {cs xs : List Str} {anc : Str → List Str} {p pos : Pos} {e : Expr} {es : List Expr} {n : DEnv → Mu → Res (List D)} (F : IsiO X.K X.mg cs xs anc) (hm : X.mg "isinstance" = none) (ha : DA X B W (e :: es) n) (hg : Gl X "isinstance" := by rfl) (he : starEach (e :: es) X.env = (false, eval e X.env) :: starEach es X.env := by rfl) (hpl : (backTo pos (starEach es X.env)).any (·.1) = false := by rfl) :
    DE X B W (.Call (.Name "isinstance" p) (e :: es) [] pos) (dCall (fIsiO cs xs anc) n) := de_callB call_isi (ca_isiO F) hg hm boot_isi' ha (by decide) (by decide) he hpl
/-! ### is of bools -/
def fIsB (neg : Bool) : F2
  | .bl a, .bl b, μ => ret (.bl (neg != decide (a = b))) μ
  | _, _, _ => none
theorem opd_isB : OpD (tx X) rIsB (fIsB false) := by
  intro B W σ env ρ G H μ x y d d' Q R hx hy k
  unfold fIsB at k
  split at k
  · simp only [Bool.false_bne] at k
    exact ⟨_, _, bl_inv hx, bl_inv hy, k.here R (.ofR rep_bl)⟩
  · exact k.elim
theorem opd_notB : OpD (tx X) rNotB (fIsB true) := by
  intro B W σ env ρ G H μ x y d d' Q R hx hy k
  unfold fIsB at k
  split at k
  · simp only [Bool.true_bne] at k
    exact ⟨_, _, bl_inv hx, bl_inv hy, k.here R (.ofR rep_bl)⟩
  · exact k.elim
end
end Dv

/-! DwZS: own ==, != and repr. -/
namespace Dv
open PySem PySem.Spec PyProof.Rows L2
/-! ### != where the class has an own == alone -/
section
variable {prog : Program} {w : World} {A : Around} {E : Value → Shared → Prop} {s : Shared} {K : PySem.W.Frag} {x C L f : Addr} {h₀ : Heap} {m : Str → Option Value} {ox : Obj} {od : Option Obj} {b tb : Value}
theorem ne_bind (self : Value) : bindSpecial (.builtin "object.__ne__") self = pure (.builtin "object.__ne__", [self]) := by kernel_rfl
theorem ne_plain : plainId "object.__ne__" = true := by decide +kernel
theorem bound_blt {M : Model} {name : Str} {id : String} {args : List Value} {Q : Option Value → Shared → Prop} (X : K.In s.heap) (I : PySem.W.InstAt s.heap x ox C od) (hs : PySem.W.findIn K (.ref C) name = some (some (.builtin id))) (hb : bindSpecial (.builtin id) (.ref x) = pure (.builtin id, [.ref x]))
    (h : wpAny M A (call (.builtin id) (.ref x :: args)) (fun v => Q (some v)) E s) : wpAny M A (callSpecialIfBound? (.ref x) name args) Q E s := by
  have bd : ∀ {Q' : Value × List Value → Shared → Prop} {E' : Value → Shared → Prop}, Q' (.builtin id, [.ref x]) s → wpAny M A (bindSpecial (.builtin id) (.ref x)) Q' E' s := fun {Q' E'} q => by rw [hb]; exact wpAny_pure q
  have fin : wpAny M A (call (.builtin id) ([.ref x] ++ args) >>= fun v => pure (some v)) Q E s := wpAny_bind (wpAny_mono h (fun v s' q => wpAny_pure q) fun _ _ q => q)
  simp only [callSpecialIfBound?, bindSpecialIfBound?]
  refine wpAny_holding (wpAny_bind (wpAny_bind (wpAny_bind (I.type.here ((PySem.W.looks_findIn X hs).here (wpAny_bind (wpAny_askSetting (wpAny_ite ?_))))))))
  split
  · exact wpAny_bind (bd (wpAny_pure (by exact fin)))
  · exact wpAny_tryCatch (wpAny_bind (bd (wpAny_pure (by exact fin))))
/-- the answer turned round -/
def NotBack (Q : Value → Shared → Prop) (v : Value) (s' : Shared) : Prop := ∃ r, v = .bool r ∧ Q (.bool (!r)) s'
theorem ne_own {Q : Value → Shared → Prop} (hu : A.units + 1 < cLine) (X : K.In s.heap) (I : PySem.W.InstAt s.heap x ox C od) (hb : PySem.W.Looks (model prog w) s.heap (typeOf b) tb) (hn : PySem.W.notFirst K C tb = true)
    (hne : PySem.W.findIn K (.ref C) "__ne__" = some (some (.builtin "object.__ne__"))) (ho : PySem.W.subIn K (.ref C) (.type "object") = some true)
    (hs : PySem.W.findIn K (.ref C) "__eq__" = some (some (.ref f))) (hf : PySem.W.isFn K (.ref f) = true)
    (h : wpAny (model prog w) A.in1 (call (.ref f) [.ref x, b]) (NotBack Q) E s) : wpAny (model prog w) A (richCompare .NotEq (.ref x) b) Q E s := by
  have ty : PySem.W.Looks (model prog w) s.heap (isInstance (.ref x) (.type "object")) true := I.type.andThen (PySem.W.looks_subIn X ho)
  have inner : ∀ {Q' : Fin → Shared → Prop}, (∀ r s', Q (.bool (!r)) s' → Q' (.done (.ret (.bool (!r)))) s') → wpAny (model prog w) A.in1 (Builtin.«object.__ne__» ⟨[.ref x, b], []⟩) Q' E s := fun {Q'} back => by
    unfold Builtin.«object.__ne__»
    refine wpAny_bind (m := slotArgs "__ne__" 1 _) (wpAny_pure ?_)
    refine wpAny_bind (wpAny_cRoomFor (by exact hu) ?_)
    refine wpAny_bind (m := callSpecialIfBound? (.ref x) (Str.ofString "__eq__") _) (PySem.W.ifBound_K X I hs hf (wpAny_mono h (fun v s' ⟨r, er, q⟩ => ?_) fun _ _ q => q))
    subst er
    exact wpAny_bind (wpAny_truthy_bool (wpAny_pure (back r s' q)))
  have one : wpAny (model prog w) A (tryCompare (.ref x) "__ne__" b) (fun r s' => ∃ v, r = some v ∧ Q v s') E s := by
    unfold tryCompare
    refine wpAny_bind (bound_blt X I hne (ne_bind _) (wpAny_call (codeAny_call_builtin ne_plain PySem.F.cmpEntry_ne (@PySem.W.check_slot (model prog w) _ _ s "object.__ne__" "object" "__ne__" (.ref x) [b] [] _ PySem.F.cmpKind_ne PySem.F.cmpSplit_ne ty (PySem.F.cmpArgs_ne _ _) (inner fun r s' q => ?_)))))
    exact wpAny_pure ⟨_, rfl, q⟩
  unfold richCompare
  simp only [oneThing_ref]
  refine wpAny_holding (wpAny_bind (wpAny_cRoomFor (Nat.lt_of_succ_lt hu) ?_))
  rw [cmpInfo_NotEq]
  refine wpAny_bind (I.type.here (wpAny_bind (hb.here ?_)))
  have last : wpAny (model prog w) A (tryCompare (.ref x) "__ne__" b) (fun r s' => ∃ v, r = some v ∧ Q v s') E s := one
  split
  · rename_i q
    have e : PySem.W.subIn K tb (.ref C) = some false := by
      rcases Bool.or_eq_true_iff.mp hn with e | e
      · rw [beq_iff_eq.mp e] at q; simp at q
      · exact beq_iff_eq.mp e
    refine wpAny_bind ((PySem.W.looks_subIn X e).here ?_)
    simp only [Bool.false_eq_true, if_false]
    refine wpAny_bind (wpAny_mono last (fun r s' z => ?_) fun _ _ e => e)
    obtain ⟨v, rfl, hq⟩ := z
    exact wpAny_pure hq
  · refine wpAny_bind (wpAny_pure ?_)
    simp only [Bool.false_eq_true, if_false]
    refine wpAny_bind (wpAny_mono last (fun r s' z => ?_) fun _ _ e => e)
    obtain ⟨v, rfl, hq⟩ := z
    exact wpAny_pure hq
end
/-! ### own == by a table of classes -/
structure EqC (P : Program) (w : World) (K : PySem.W.Frag) (mg : Str → Option Value) (base : Heap) (c : Str) (k : Nat) (fn : Fn) : Prop where
  ex : ∃ (C g : Addr) (fd : FuncData) (ps : List Str), mg c = some (.ref C) ∧ Meth K C "__eq__" g ∧ PySem.W.findIn K (.ref C) "__ne__" = some (some (.builtin "object.__ne__")) ∧ PySem.W.subIn K (.ref C) (.type "object") = some true ∧ ps.length = 2 ∧ Binds K fd ps [] ∧
    FnOk P w K mg base (L2.CX P w) k g fd ps (spD ⟨K, mg⟩ 2 fn)
structure EqT (P : Program) (w : World) (K : PySem.W.Frag) (mg : Str → Option Value) (base : Heap) (k : Nat) (tbl : List (Str × Fn)) (okp : List (Str × Str)) : Prop where
  ok : ∀ c fn, tbl.lookup c = some fn → ∃ j, j ≤ k ∧ EqC P w K mg base c j fn
  ty : ∀ c fn, tbl.lookup c = some fn → ∃ C : Addr, mg c = some (.ref C) ∧ ∀ t ∈ inTys, PySem.W.notFirst K C (.type t) = true
  two : ∀ q ∈ okp, ∃ C D : Addr, mg q.1 = some (.ref C) ∧ mg q.2 = some (.ref D) ∧ InsI K D ∧ PySem.W.notFirst K C (.ref D) = true
def eqCB (c : Str) : PySem.W.Frag → Bool := fun K => decide (PySem.W.findIn K (.ref (He.ga K c)) "__ne__" = some (some (.builtin "object.__ne__"))) && (decide (PySem.W.subIn K (.ref (He.ga K c)) (.type "object") = some true) && inTys.all fun t => PySem.W.notFirst K (He.ga K c) (.type t))
def eqPB (okp : List (Str × Str)) : PySem.W.Frag → Bool := fun K => okp.all fun q => insIB q.2 K && PySem.W.notFirst K (He.ga K q.1) (.ref (He.ga K q.2))
/-- whether the other one may be asked with: its class is none below -/
def okOther (okp : List (Str × Str)) (c : Str) (d : D) (μ : Mu) : Bool := match fldsOf μ d with
  | some (c', _) => decide ((c, c') ∈ okp)
  | none => (tyN d).isSome
def fEqO (tbl : List (Str × Fn)) (okp : List (Str × Str)) : F2 := fun a b μ => match fldsOf μ a with
  | some (c, _) => (match tbl.lookup c with
    | some fn => if okOther okp c b μ = true then fCall 2 (valOnly fn) [a, b] μ else none
    | none => none)
  | none => fEq a b μ
def fNeO (tbl : List (Str × Fn)) (okp : List (Str × Str)) : F2 := fun a b μ => match fldsOf μ a with
  | some (c, _) => (match tbl.lookup c with
    | some fn => if okOther okp c b μ = true then (match fCall 2 (valOnly fn) [a, b] μ with
      | some (.val (.bl r), μ') => some (.val (.bl !r), μ')
      | _ => none) else none
    | none => none)
  | none => fNe a b μ
def rEqO (X : Cx) (bk : VK → VK) : R2 := fun x y H Q => ∃ (a C dx : Addr) (vf : List (Str × V)) (t : Value) (g : Addr) (fd : FuncData) (ps : List Str) (j : Nat) (fn : Fn), x = .ref a ∧ H a = some (.ins C dx vf) ∧ TyX X.K H y t ∧ PySem.W.notFirst X.K C t = true ∧ Meth X.K C "__eq__" g ∧
  PySem.W.findIn X.K (.ref C) "__ne__" = some (some (.builtin "object.__ne__")) ∧ PySem.W.subIn X.K (.ref C) (.type "object") = some true ∧ ps.length = 2 ∧ Binds X.K fd ps [] ∧ FnOk X.prog X.w X.K X.mg X.base (L2.CX X.prog X.w) j g fd ps (spD (tx X) 2 fn) ∧ Room (j + 2) X.A ∧
  spD (tx X) 2 fn [x, y] H (bk Q) (fun _ _ _ => False)
section
variable {X : Cx} {B : Bs} {W : WX}
theorem nox {pins : List (Addr × Obj)} {σ : L2.St} {H : Hp} {s s' : Shared} {e : Value} {P : Prop} (z : L2.CX X.prog X.w X.stack H s (fun _ _ _ => False) e s') : P := by
  obtain ⟨_, _, _, _, _, _, _, _, _, _, _, _, q⟩ := z; exact q.elim
theorem op_eqO (bk : VK → VK) (hbk : bk = id) : OpR X (compareOp .Eq) (rEqO X bk) := by
  subst hbk
  intro pins s σ H x y v u Q I rx ry h
  obtain ⟨a, C, dx, vf, t, g, fd, ps, j, fn, rfl, ea, ty, hn, me, hne, hob, hps, hb, F, hr, told⟩ := h
  cases (show v = Value.ref a from rx)
  obtain ⟨mA, O, _, _, _, _⟩ := ins_get I.hok ea
  obtain ⟨od, J, _⟩ := O.look
  obtain ⟨m, hF⟩ := I.fr
  obtain ⟨P0, kt, hp, _⟩ := kit_of I ry ty
  have hr' : Room j X.A := hr.mono (by omega)
  show wpAny _ _ (richCompare .Eq _ _) _ _ _
  refine PySem.W.cmp_K (op := .Eq) hr'.units0 hF I.ok.mod.kin J (kt.ty _ _ I.kIn hp) hn me.at_ me.fn ?_
  have told : spD (tx X) 2 fn ([.ref a, y] ++ []) H Q (fun _ _ _ => False) := told
  refine wpAny_mono (run_fn (us := [.ref a, u]) (vs := [.ref a, y]) (E := fun _ _ _ => False) F hr' hb .nil (fun pins σ H s e s' I z => nox (pins := pins) (σ := σ) z) I (.cons rfl (.cons ry .nil)) told) (fun w s' z => ?_) fun _ _ x => x
  obtain ⟨z', H', I', rz, qz⟩ := z
  exact SlX.cmpback rz ⟨z', H', I', rz, qz⟩
theorem op_neO : OpR X (compareOp .NotEq) (rEqO X fun Q v H => ∃ r, v = .bl r ∧ Q (.bl !r) H) := by
  intro pins s σ H x y v u Q I rx ry h
  obtain ⟨a, C, dx, vf, t, g, fd, ps, j, fn, rfl, ea, ty, hn, me, hne, hob, hps, hb, F, hr, told⟩ := h
  cases (show v = Value.ref a from rx)
  obtain ⟨mA, O, _, _, _, _⟩ := ins_get I.hok ea
  obtain ⟨od, J, _⟩ := O.look
  obtain ⟨P0, kt, hp, _⟩ := kit_of I ry ty
  have hr1 : Room (j + 1) X.A.in1 := hr.in1
  have hr2 : Room j X.A.in1 := hr1.mono (by omega)
  show wpAny _ _ (richCompare .NotEq _ _) _ _ _
  refine ne_own (by have := hr.units0; have q := hr.un; omega) I.kIn J (kt.ty _ _ I.kIn hp) hn hne hob me.at_ me.fn ?_
  have told : spD (tx X) 2 fn [.ref a, y] H (fun v H => ∃ r, v = .bl r ∧ Q (.bl !r) H) (fun _ _ _ => False) := told
  refine wpAny_call (codeAny_mono (F.run X.A.in1 X.stack s H ⟨[.ref a, u], []⟩ [.ref a, u] [.ref a, y] _ (fun _ _ _ => False) hr2 I.env0.in1 (hb s [.ref a, u] I.kIn (by rw [hps]; rfl)) (.cons rfl (.cons ry .nil)) told) fun rr s' hq => ?_)
  cases rr with
  | error e => exact nox (pins := pins) (σ := σ) hq
  | ok fl =>
    cases fl with
    | ret w =>
      obtain ⟨z', H', I', rz, r, ez, qz⟩ := I.after hq
      subst ez
      cases (show w = Value.bool r from rz)
      exact ⟨r, rfl, .bl !r, H', I', rfl, qz⟩
    | next => exact False.elim hq
    | brk => exact False.elim hq
    | cont => exact False.elim hq
theorem eqo_told {fn : Fn} {a b : D} {ρ : List Addr} {G H : Hp} {σ : L2.St} {env : DEnv} {μ : Mu} {x y : V} {Q : VK} (R : RD (tx X) B ρ G H σ env μ) (hx : HeldR (tx X) ρ G σ env x a) (hy : HeldR (tx X) ρ G σ env y b)
    (k : KE (tx X) B σ env W (PX (tx X) B σ env Q) ρ G (fCall 2 (valOnly fn) [a, b] μ)) : spD (tx X) 2 fn [x, y] H Q (fun _ _ _ => False) := by
  unfold fCall at k
  split at k
  · rename_i h
    refine ⟨rfl, ρ, G, [a, b], μ, R.gh, R.st, (HReps.cons hx (.cons hy .nil)).reps h.2, ?_⟩
    unfold valOnly at k
    cases hq : fn [a, b] μ with
    | none => rw [hq] at k; exact k.elim
    | some z =>
      obtain ⟨o', μ2⟩ := z
      rw [hq] at k
      cases o' with
      | exc y => exact k.elim
      | val d' => exact fun v ρ' G' H' ex gh st ro => k ρ' G' H' ex.gg ex.pre (R.after ex gh st) v (repX_after R ro)
  · exact k.elim
theorem other_ty {k : Nat} {tbl : List (Str × Fn)} {okp : List (Str × Str)} {c : Str} {fn : Fn} {b : D} {C : Addr} {ρ : List Addr} {G H : Hp} {σ : L2.St} {env : DEnv} {μ : Mu} {y : V} (F : EqT X.prog X.w X.K X.mg X.base k tbl okp) (ht : tbl.lookup c = some fn) (hm : X.mg c = some (.ref C))
    (R : RD (tx X) B ρ G H σ env μ) (hy : HeldR (tx X) ρ G σ env y b) (ho : okOther okp c b μ = true) : ∃ t, TyX X.K H y t ∧ PySem.W.notFirst X.K C t = true := by
  unfold okOther at ho
  split at ho
  · rename_i c' fs hf
    have hp := of_decide_eq_true ho
    obtain ⟨C1, D, m1, m2, T, nf⟩ := F.two _ hp
    rw [hm] at m1; cases m1
    obtain ⟨a, C2, dx, vf, rfl, hm2, ea, _⟩ := inst_inv R hy hf
    have hm2 : X.mg c' = some (.ref C2) := hm2
    rw [m2] at hm2; cases hm2
    exact ⟨_, .base (.ins ea T.cl T.ca T.cn T.ct T.cm), nf⟩
  · obtain ⟨t, et⟩ := Option.isSome_iff_exists.mp ho
    obtain ⟨C1, m1, nf⟩ := F.ty _ _ ht
    rw [hm] at m1; cases m1
    exact ⟨_, tyX_of R hy et, nf t (tyN_mem et)⟩
theorem opd_eqO {k : Nat} {tbl : List (Str × Fn)} {okp : List (Str × Str)} (F : EqT X.prog X.w X.K X.mg X.base k tbl okp) (hr : Room (k + 2) X.A) : OpD (tx X) (fun x y H Q => rEqO X id x y H Q ∨ rEqD X.K x y H Q) (fEqO tbl okp) := by
  intro B W σ env ρ G H μ x y d d' Q R hx hy k1
  unfold fEqO at k1
  split at k1
  · rename_i c fs hf
    split at k1
    · rename_i fn ht
      split at k1
      · rename_i ho
        obtain ⟨j, hj, E⟩ := F.ok _ _ ht
        obtain ⟨C, g, fd, ps, hm, me, hne, hob, hps, hb, FO⟩ := E.ex
        obtain ⟨a, C', dx, vf, rfl, hm', ea, _⟩ := inst_inv R hx hf
        have hm' : X.mg c = some (.ref C') := hm'
        rw [hm] at hm'; cases hm'
        obtain ⟨t, ty, nf⟩ := other_ty F ht hm R hy ho
        exact .inl ⟨a, C, dx, vf, t, g, fd, ps, j, fn, rfl, ea, ty, nf, me, hne, hob, hps, hb, FO, hr.mono (by omega), eqo_told R hx hy k1⟩
      · exact k1.elim
    · exact k1.elim
  · exact .inr (opd_eq B W σ env ρ G H μ x y d d' Q R hx hy k1)
theorem opd_neO {k : Nat} {tbl : List (Str × Fn)} {okp : List (Str × Str)} (F : EqT X.prog X.w X.K X.mg X.base k tbl okp) (hr : Room (k + 2) X.A) : OpD (tx X) (fun x y H Q => rEqO X (fun Q v H => ∃ r, v = .bl r ∧ Q (.bl !r) H) x y H Q ∨ rNeD X.K x y H Q) (fNeO tbl okp) := by
  intro B W σ env ρ G H μ x y d d' Q R hx hy k1
  unfold fNeO at k1
  split at k1
  · rename_i c fs hf
    split at k1
    · rename_i fn ht
      split at k1
      · rename_i ho
        obtain ⟨j, hj, E⟩ := F.ok _ _ ht
        obtain ⟨C, g, fd, ps, hm, me, hne, hob, hps, hb, FO⟩ := E.ex
        obtain ⟨a, C', dx, vf, rfl, hm', ea, _⟩ := inst_inv R hx hf
        have hm' : X.mg c = some (.ref C') := hm'
        rw [hm] at hm'; cases hm'
        obtain ⟨t, ty, nf⟩ := other_ty F ht hm R hy ho
        refine .inl ⟨a, C, dx, vf, t, g, fd, ps, j, fn, rfl, ea, ty, nf, me, hne, hob, hps, hb, FO, hr.mono (by omega), ?_⟩
        split at k1
        · rename_i r μ' hq
          refine eqo_told (B := B) (W := W) (σ := σ) (env := env) R hx hy ?_
          rw [hq]
          intro ρ' G' H' s p R' v hv
          have hv : Rep (tx X) ρ' G' v (.bl r) := hv
          unfold Rep at hv
          exact ⟨r, hv, k1 ρ' G' H' s p R' _ (.ofR rep_bl)⟩
        · exact k1.elim
      · exact k1.elim
    · exact k1.elim
  · exact .inr (opd_ne B W σ env ρ G H μ x y d d' Q R hx hy k1)
/-! ### own repr -/
structure RepT (P : Program) (w : World) (K : PySem.W.Frag) (mg : Str → Option Value) (base : Heap) (k : Nat) (tbl : List (Str × Fn)) : Prop where
  ok : ∀ c fn, tbl.lookup c = some fn → ∃ j, j ≤ k ∧ ∃ (C g : Addr) (fd : FuncData) (ps : List Str), mg c = some (.ref C) ∧ Meth K C "__repr__" g ∧ ps.length = 1 ∧ Binds K fd ps [] ∧ FnOk P w K mg base (L2.CX P w) j g fd ps (spD ⟨K, mg⟩ 1 fn)
def fRepr (tbl : List (Str × Fn)) : FA
  | [d], μ => (match fldsOf μ d with
    | some (c, _) => (match tbl.lookup c with
      | some fn => (match fCall 1 (valOnly fn) [d] μ with
        | some (.val (.str z), μ') => some (.val (.str z), μ')
        | _ => none)
      | none => none)
    | none => none)
  | _, _ => none
def rRepr (X : Cx) : List V → Hp → VK → Prop := fun xs H Q => ∃ (a C dx : Addr) (vf : List (Str × V)) (g : Addr) (fd : FuncData) (ps : List Str) (j : Nat) (fn : Fn), xs = [.ref a] ∧ H a = some (.ins C dx vf) ∧ Meth X.K C "__repr__" g ∧ ps.length = 1 ∧ Binds X.K fd ps [] ∧
  FnOk X.prog X.w X.K X.mg X.base (L2.CX X.prog X.w) j g fd ps (spD (tx X) 1 fn) ∧ Room (j + 2) X.A ∧ spD (tx X) 1 fn [.ref a] H (fun v H => ∃ z, v = .str z ∧ Q v H) (fun _ _ _ => False)
theorem call_reprO : CallR X (.builtin "repr") (rRepr X) := by
  intro pins s σ H xs us Q I r h
  obtain ⟨a, C, dx, vf, g, fd, ps, j, fn, rfl, ea, me, hps, hb, F, hr, told⟩ := h
  obtain ⟨u, rfl, ru⟩ := vals1 r
  cases (show u = Value.ref a from ru)
  obtain ⟨mA, O, _, _, _, _⟩ := ins_get I.hok ea
  obtain ⟨od, J, _⟩ := O.look
  obtain ⟨m, hF⟩ := I.fr
  have hr1 : Room (j + 1) X.A.in1 := hr.in1
  refine PySem.W.repr_K hr1.units0 hF I.ok.mod.kin J me.at_ me.fn ?_
  refine wpAny_call (codeAny_mono (F.run X.A.in1 X.stack s H ⟨[.ref a], []⟩ [.ref a] [.ref a] _ (fun _ _ _ => False) (hr1.mono (by omega)) I.env0.in1 (hb s [.ref a] I.kIn (by rw [hps]; rfl)) (.cons rfl .nil) told) fun rr s' hq => ?_)
  cases rr with
  | error e => exact nox (pins := pins) (σ := σ) hq
  | ok fl =>
    cases fl with
    | ret w =>
      obtain ⟨z', H', I', rz, z, ez, qz⟩ := I.after hq
      subst ez
      obtain ⟨t, et⟩ := (show ∃ t, w = Value.str z t from rz)
      cases et
      exact ⟨.str z, H', I', ⟨t, rfl⟩, qz⟩
    | next => exact False.elim hq
    | brk => exact False.elim hq
    | cont => exact False.elim hq
theorem ca_reprO {k : Nat} {tbl : List (Str × Fn)} (F : RepT X.prog X.w X.K X.mg X.base k tbl) (hr : Room (k + 2) X.A) : CallD (tx X) (rRepr X) (fRepr tbl) := by
  intro B W σ env ρ G H μ vs ds Q R h k1
  unfold fRepr at k1
  split at k1
  · rename_i d
    obtain ⟨v, rfl, hv⟩ := hreps1 h
    split at k1
    · rename_i c fs hf
      split at k1
      · rename_i fn ht
        obtain ⟨j, hj, C, g, fd, ps, hm, me, hps, hb, FO⟩ := F.ok _ _ ht
        obtain ⟨a, C', dx, vf, rfl, hm', ea, _⟩ := inst_inv R hv hf
        have hm' : X.mg c = some (.ref C') := hm'
        rw [hm] at hm'; cases hm'
        refine ⟨a, C, dx, vf, g, fd, ps, j, fn, rfl, ea, me, hps, hb, FO, hr.mono (by omega), ?_⟩
        split at k1
        · rename_i z μ' hq
          unfold fCall at hq
          split at hq
          · rename_i hl
            refine ⟨rfl, ρ, G, [d], μ, R.gh, R.st, (HReps.cons hv .nil).reps hl.2, ?_⟩
            unfold valOnly at hq
            cases hz : fn [d] μ with
            | none => rw [hz] at hq; cases hq
            | some z0 =>
              obtain ⟨o', μ2⟩ := z0
              rw [hz] at hq
              cases o' with
              | exc y => cases hq
              | val d' =>
                cases hq
                intro v ρ' G' H' ex gh st ro
                have ro : Rep (tx X) ρ' G' v (.str z) := ro
                have e := ro
                unfold Rep at e
                exact ⟨z, e, k1 ρ' G' H' ex.gg ex.pre (R.after ex gh st) v (.ofR ro)⟩
          · cases hq
        · exact k1.elim
      · exact k1.elim
    · exact k1.elim
  · exact k1.elim
theorem boot_repr' : bootBuiltins "repr" = some (.builtin "repr") := by kernel_rfl
theorem repr_ {k : Nat} {tbl : List (Str × Fn)} {p pos : Pos} {e : Expr} {es : List Expr} {n : DEnv → Mu → Res (List D)} (F : RepT X.prog X.w X.K X.mg X.base k tbl) (hr : Room (k + 2) X.A) (hm : X.mg "repr" = none) (ha : DA X B W (e :: es) n) (hg : Gl X "repr" := by rfl) (he : starEach (e :: es) X.env = (false, eval e X.env) :: starEach es X.env := by rfl) (hpl : (backTo pos (starEach es X.env)).any (·.1) = false := by rfl) :
    DE X B W (.Call (.Name "repr" p) (e :: es) [] pos) (dCall (fRepr tbl) n) := de_callB call_reprO (ca_reprO F hr) hg hm boot_repr' ha (by decide) (by decide) he hpl
end
end Dv

/-! DwZT: the head with getters and static methods; tables of classes put together. -/
namespace Dv
open PySem PySem.Spec PyProof.Rows L2
/-! ### the head -/
abbrev AlZ : Type := AlY × He.AlD
structure SaysZ (file : Str) (fa : List He.Fa) (fn : List He.DefD) (fc : List ClD) (bs : List (PySem.W.Frag → Bool)) (tf : List He.Defn) (fz : List He5.DefA) (h : Heap) (K : PySem.W.Frag) : Prop where
  y : SaysY file fa fn fc bs tf h K
  z : (fz.all (fun d => d.ok K), fz.map fun d => He5.fnA K (d.at_ K)) = (true, fz.map He5.DefA.val)
def obsZ (file : Str) (n : Nat) (fa : List He.Fa) (fn : List He.DefD) (fc : List ClD) (bs : List (PySem.W.Frag → Bool)) (tf : List He.Defn) (fz : List He5.DefA) (g : Addr → Option Obj) : AlZ := (obsY file n fa fn fc bs tf g, fz.all (fun d => d.ok (frY n g)), fz.map fun d => He5.fnA (frY n g) (d.at_ (frY n g)))
def valZ (fn : List He.DefD) (fc : List ClD) (fz : List He5.DefA) : AlZ := (valY fn fc, true, fz.map He5.DefA.val)
section
variable {file : Str} {n : Nat} {fa : List He.Fa} {fn : List He.DefD} {fc : List ClD} {bs : List (PySem.W.Frag → Bool)} {tf : List He.Defn} {fz : List He5.DefA}
theorem saysZ_of {h : Heap} (e : obsZ file n fa fn fc bs tf fz h.get? = valZ fn fc fz) : SaysZ file fa fn fc bs tf fz h (frY n h.get?) := ⟨saysY_of (congrArg (·.1) e), congrArg (·.2) e⟩
def hookZ (file : Str) (n : Nat) (fa : List He.Fa) (fn : List He.DefD) (fc : List ClD) (bs : List (PySem.W.Frag → Bool)) (tf : List He.Defn) (fz : List He5.DefA) : PySem.W.Hook where
  α := AlZ
  obs := fun t => obsZ file n fa fn fc bs tf fz t.heap.get?
  val := fun _ => valZ fn fc fz
  says := fun _ h => ∃ K : PySem.W.Frag, K.In h ∧ SaysZ file fa fn fc bs tf fz h K
  of := fun _ _ q => ⟨_, He.frT_in, saysZ_of q⟩
  keeps := fun _ _ _ ⟨K, hK, c⟩ k => ⟨K, hK.keeps k, ⟨⟨c.y.b, c.y.hd, c.y.out, fun p hp => k _ _ (c.y.empty p hp)⟩, c.z⟩⟩
theorem obsZ_eq {g : Addr → Option Obj} {t : Shared} (h : ∀ a, g a = t.heap.get? a) : obsZ file n fa fn fc bs tf fz g = (hookZ file n fa fn fc bs tf fz).obs t := by
  cases (funext h : g = t.heap.get?); rfl
theorem SaysZ.def_ {h : Heap} {K : PySem.W.Frag} (c : SaysZ file fa fn fc bs tf fz h K) (i : Nat) {d : He5.DefA} (hd : fz[i]? = some d := by rfl) : ∃ fd, FunD K d.name d.qual d.params d.body d.scope (d.dvs K) (d.kws K) (d.at_ K) fd := by
  have ok := List.all_eq_true.mp (congrArg (fun z : He.AlD => z.1) c.z : fz.all (fun d => d.ok K) = true) d (List.mem_of_getElem? hd)
  have maps : (fz.map fun d => He5.fnA K (d.at_ K))[i]? = (fz.map He5.DefA.val)[i]? := congrArg (fun z : He.AlD => z.2[i]?) c.z
  rw [List.getElem?_map, List.getElem?_map, hd] at maps
  exact He5.DefA.funD (Option.some.inj maps) ok
end
/-! ### checks -/
abbrev propAt (c f : Str) (K : PySem.W.Frag) : Addr := He5.wf K (He.ga K c) "property" f
abbrev statAt (c m : Str) (K : PySem.W.Frag) : Addr := He5.wf K (He.ga K c) "staticmethod" m
abbrev methAt (c m : Str) (K : PySem.W.Frag) : Addr := He.ma K (He.ga K c) m
/-- the getter is the one that stands at d -/
def getB (K : PySem.W.Frag) (p g : Addr) : Bool := match PySem.W.recIn K p "property" with
  | some (.ref a :: _) => decide (a = g)
  | _ => false
def propB (c f d : Str) : PySem.W.Frag → Bool := fun K => decide (PySem.W.findIn K (.ref (He.ga K c)) f = some (some (.ref (methAt c f K)))) && (decide (PySem.W.specialIn K (.ref (methAt c f K)) "__get__" = some (some (.builtin "property.__get__"))) && (decide (PySem.W.takesIn K (.ref (methAt c f K)) = some true) && getB K (methAt c f K) (propAt d f K)))
theorem propB_ok {c f d : Str} {K : PySem.W.Frag} (h : propB c f d K = true) : PropOf K (He.ga K c) f (methAt c f K) (propAt d f K) := by
  unfold propB at h
  simp only [Bool.and_eq_true, decide_eq_true_eq] at h
  obtain ⟨h1, h2, h3, h4⟩ := h
  refine ⟨h1, h2, h3, ?_⟩
  unfold getB at h4
  split at h4
  · rename_i a r e
    rw [of_decide_eq_true h4] at e
    exact ⟨r, e⟩
  · cases h4
def samB (c d m : Str) : PySem.W.Frag → Bool := fun K => (He.Fa.meth c m).ok K && decide (methAt c m K = methAt d m K)
theorem samB_ok {c d m : Str} {K : PySem.W.Frag} (h : samB c d m K = true) : Meth K (He.ga K c) m (methAt d m K) := by
  unfold samB at h
  simp only [Bool.and_eq_true, decide_eq_true_eq] at h
  rw [← h.2]
  exact He.meth_ok h.1
def statB (c m : Str) : PySem.W.Frag → Bool := fun K => He5.wrapB K (He.ga K c) "staticmethod" "staticmethod.__get__" m && (PySem.W.readsIn K (He.ga K c) (.type "type") && decide (PySem.W.specialIn K (.ref (He.ga K c)) "__getattribute__" = some (some (.builtin "type.__getattribute__"))))
def plB (c : Str) : PySem.W.Frag → Bool := fun K => PySem.W.makesIn K (He.ga K c) && (decide (PySem.W.findIn K (.ref (He.ga K c)) "__init__" = some (some (.builtin "object.__init__"))) && (decide (PySem.W.subIn K (.ref (He.ga K c)) (.type "object") = some true) && PySem.W.keepIn K (.ref (He.ga K c))))
theorem plB_ok {c : Str} {K : PySem.W.Frag} {mg : Str → Option Value} (hm : mg c = some (.ref (He.ga K c))) (h : plB c K = true) : ∃ C, mg c = some (.ref C) ∧ MkPl K C := by
  unfold plB at h
  simp only [Bool.and_eq_true, decide_eq_true_eq] at h
  exact ⟨_, hm, h.1, h.2.1, h.2.2.1, h.2.2.2⟩
/-- the attribute f is of none of these classes -/
def noatsB (cs : List Str) (f : Str) : PySem.W.Frag → Bool := fun K => cs.all fun c => (He.Fa.noat c f).ok K
theorem clsF_of {cs : List Str} {f : Str} {K : PySem.W.Frag} {mg : Str → Option Value} (hm : ∀ c ∈ cs, mg c = some (.ref (He.ga K c)) ∧ Cls K (He.ga K c)) (h : noatsB cs f K = true) : ClsF K mg cs f :=
  ⟨fun c hc => ⟨_, (hm c hc).1, (hm c hc).2, He.noat_ok (List.all_eq_true.mp h c hc)⟩⟩
/-! ### a def that stands somewhere -/
structure DefOk (P : Program) (w : World) (K : PySem.W.Frag) (mg : Str → Option Value) (base : Heap) (a : Addr) (ps : List Str) (k : Nat) (m : Fn) : Prop where
  ex : ∃ fd : FuncData, PySem.W.keepIn K (.ref a) = true ∧ Binds K fd ps [] ∧ FnOk P w K mg base (L2.CX P w) k a fd ps (spD ⟨K, mg⟩ ps.length m)
section
variable {P : Program} {w : World} {K : PySem.W.Frag} {mg : Str → Option Value} {base : Heap} {c d m f : Str} {ps : List Str} {j k n : Nat} {fn : Fn} {tbl : List (Str × Fn)} {okp : List (Str × Str)}
theorem methC_of (hm : mg c = some (.ref (He.ga K c))) (cl : Cls K (He.ga K c)) (s : samB c d m K = true) (F : DefOk P w K mg base (methAt d m K) ps k fn) : MethC P w K mg base c m ps k fn := by
  obtain ⟨fd, _, hb, F⟩ := F.ex
  exact ⟨_, _, fd, hm, cl, samB_ok s, hb, F⟩
theorem propC_of (hm : mg c = some (.ref (He.ga K c))) (cl : Cls K (He.ga K c)) (s : propB c f d K = true) (F : DefOk P w K mg base (propAt d f K) ps k fn) (hn : ps.length = 1) : PropC P w K mg base c f k fn := by
  obtain ⟨fd, _, hb, F⟩ := F.ex
  rw [hn] at F
  exact ⟨_, _, _, fd, ps, hm, cl, propB_ok s, hn, hb, F⟩
theorem statC_of (hm : mg c = some (.ref (He.ga K c))) (s : statB c m K = true) (F : DefOk P w K mg base (statAt c m K) ps k fn) : StatC P w K mg base c m ps k fn := by
  obtain ⟨fd, kp, hb, F⟩ := F.ex
  unfold statB at s
  simp only [Bool.and_eq_true, decide_eq_true_eq] at s
  obtain ⟨h1, h2⟩ := He5.wrapB_ok s.1
  exact ⟨_, _, _, fd, hm, ⟨s.2.1, s.2.2⟩, h1, h2, kp, hb, F⟩
theorem mkC_of (hm : mg c = some (.ref (He.ga K c))) (s : (He.Fa.mkr c).ok K = true) (F : DefOk P w K mg base (methAt c "__init__" K) ps k fn) : MkC P w K mg base c ps k fn := by
  obtain ⟨fd, _, hb, F⟩ := F.ex
  exact ⟨_, _, fd, hm, He.mkr_ok s, hb, F⟩
theorem eqC_of (hm : mg c = some (.ref (He.ga K c))) (s : samB c d "__eq__" K = true) (e : eqCB c K = true) (F : DefOk P w K mg base (methAt d "__eq__" K) ps k fn) (hn : ps.length = 2) : EqC P w K mg base c k fn := by
  obtain ⟨fd, _, hb, F⟩ := F.ex
  rw [hn] at F
  unfold eqCB at e
  simp only [Bool.and_eq_true, decide_eq_true_eq] at e
  exact ⟨_, _, fd, ps, hm, samB_ok s, e.1, e.2.1, hn, hb, F⟩
theorem MethT.nil : MethT P w K mg base m n k [] := ⟨fun c fn h => nomatch h⟩
theorem MethT.cons (h : MethC P w K mg base c m ps j fn) (hn : ps.length = n) (hj : j ≤ k) (r : MethT P w K mg base m n k tbl) : MethT P w K mg base m n k ((c, fn) :: tbl) := ⟨fun x g e => by
  by_cases q : x = c
  · subst q
    rw [List.lookup_cons_self] at e; cases e
    exact ⟨ps, j, hn, hj, h⟩
  · rw [List.lookup_cons, beq_false_of_ne q] at e
    exact r.ok x g e⟩
theorem PropT.nil : PropT P w K mg base f k [] := ⟨fun c fn h => nomatch h⟩
theorem PropT.cons (h : PropC P w K mg base c f j fn) (hj : j ≤ k) (r : PropT P w K mg base f k tbl) : PropT P w K mg base f k ((c, fn) :: tbl) := ⟨fun x g e => by
  by_cases q : x = c
  · subst q
    rw [List.lookup_cons_self] at e; cases e
    exact ⟨j, hj, h⟩
  · rw [List.lookup_cons, beq_false_of_ne q] at e
    exact r.ok x g e⟩
theorem RepT.nil : RepT P w K mg base k [] := ⟨fun c fn h => nomatch h⟩
theorem RepT.cons (h : MethC P w K mg base c "__repr__" ps j fn) (hn : ps.length = 1) (hj : j ≤ k) (r : RepT P w K mg base k tbl) : RepT P w K mg base k ((c, fn) :: tbl) := ⟨fun x g e => by
  by_cases q : x = c
  · subst q
    rw [List.lookup_cons_self] at e; cases e
    obtain ⟨C, a, fd, hm, _, me, hb, F⟩ := h.ex
    rw [hn] at F
    exact ⟨j, hj, C, a, fd, ps, hm, me, hn, hb, F⟩
  · rw [List.lookup_cons, beq_false_of_ne q] at e
    exact r.ok x g e⟩
theorem EqT.nil (h : eqPB okp K = true) (hm : ∀ q ∈ okp, mg q.1 = some (.ref (He.ga K q.1)) ∧ mg q.2 = some (.ref (He.ga K q.2))) : EqT P w K mg base k [] okp :=
  ⟨fun c fn h => (nomatch h), fun c fn h => (nomatch h), fun q hq => by
    have z := List.all_eq_true.mp h q hq
    rw [Bool.and_eq_true] at z
    exact ⟨_, _, (hm q hq).1, (hm q hq).2, insIB_ok z.1, z.2⟩⟩
theorem EqT.cons (h : EqC P w K mg base c j fn) (hm : mg c = some (.ref (He.ga K c))) (e : eqCB c K = true) (hj : j ≤ k) (r : EqT P w K mg base k tbl okp) : EqT P w K mg base k ((c, fn) :: tbl) okp := by
  refine ⟨fun x g q => ?_, fun x g q => ?_, r.two⟩
  · by_cases z : x = c
    · subst z
      rw [List.lookup_cons_self] at q; cases q
      exact ⟨j, hj, h⟩
    · rw [List.lookup_cons, beq_false_of_ne z] at q
      exact r.ok x g q
  · by_cases z : x = c
    · subst z
      unfold eqCB at e
      simp only [Bool.and_eq_true, decide_eq_true_eq] at e
      exact ⟨_, hm, fun t ht => List.all_eq_true.mp e.2.2 t ht⟩
    · rw [List.lookup_cons, beq_false_of_ne z] at q
      exact r.ty x g q
end
end Dv

/-! DwZU: making with keywords alone; max of two ints by its name; lambdas by their place in a text. -/
namespace Dv
open PySem PySem.Spec PyProof.Rows L2
section
variable {P : Program} {w : World} {K : PySem.W.Frag} {mg : Str → Option Value} {base : Heap} {c : Str} {a : Addr} {ps : List Str} {kb : List (Nat × List Str)} {k : Nat} {m : Fn}
/-- a def that stands somewhere, with the ways it may be called by keywords -/
structure DefK (P : Program) (w : World) (K : PySem.W.Frag) (mg : Str → Option Value) (base : Heap) (a : Addr) (ps : List Str) (kb : List (Nat × List Str)) (k : Nat) (m : Fn) : Prop where
  ex : ∃ fd : FuncData, PySem.W.keepIn K (.ref a) = true ∧ Binds K fd ps [] ∧ (∀ q ∈ kb, KBn K fd ps q.1 q.2 (fun us ws => us ++ ws) (fun us ws => us ++ ws)) ∧ FnOk P w K mg base (L2.CX P w) k a fd ps (spD ⟨K, mg⟩ ps.length m)
structure MkK (P : Program) (w : World) (K : PySem.W.Frag) (mg : Str → Option Value) (base : Heap) (c : Str) (ps : List Str) (kb : List (Nat × List Str)) (k : Nat) (m : Fn) : Prop where
  ex : ∃ (C fI : Addr) (fd : FuncData), mg c = some (.ref C) ∧ Mk K C fI ∧ Binds K fd ps [] ∧ (∀ q ∈ kb, KBn K fd ps q.1 q.2 (fun us ws => us ++ ws) (fun us ws => us ++ ws)) ∧ FnOk P w K mg base (L2.CX P w) k fI fd ps (spD ⟨K, mg⟩ ps.length m)
theorem MkK.plain (M : MkK P w K mg base c ps kb k m) : MkC P w K mg base c ps k m := by
  obtain ⟨C, fI, fd, h1, h2, h3, _, h5⟩ := M.ex
  exact ⟨C, fI, fd, h1, h2, h3, h5⟩
theorem mkK_of (hm : mg c = some (.ref (He.ga K c))) (s : (He.Fa.mkr c).ok K = true) (F : DefK P w K mg base (methAt c "__init__" K) ps kb k m) : MkK P w K mg base c ps kb k m := by
  obtain ⟨fd, _, hb, hk, F⟩ := F.ex
  exact ⟨_, _, fd, hm, He.mkr_ok s, hb, hk, F⟩
end
section
variable {X : Cx} {CX : CXT} {k : Nat} {C fI : Addr} {fd : FuncData} {ps ks : List Str} {sp : Sp} {E : L2.St → XK}
/-- the object is laid, its init runs with values by name -/
theorem made_insK {pins : List (Addr × Obj)} {σ : L2.St} {H : Hp} {s : Shared} {Q : VK} {us ws : List Value} {vs zs : List V} (M : Mk X.K C fI) (F : FnOk X.prog X.w X.K X.mg X.base CX k fI fd ps sp) (hr : Room (k + 1) X.A) {n : Nat} (hb : KBn X.K fd ps (n + 1) ks (fun us ws => us ++ ws) (fun us ws => us ++ ws)) (hx : PassesAt CX X σ (E σ)) (I : Inv X pins σ H s) (r : Vals vs us) (rz : Vals zs ws) (l1 : vs.length = n) (l2 : zs.length = ks.length)
    (told : ∀ x dx, H x = none → H dx = none → dx ≠ x → sp (.ref x :: (vs ++ zs)) (upd (upd H dx (.own x)) x (.ins C dx [])) (fun v H2 => v = .non ∧ Q (.ref x) H2) (E σ)) : wpAny (model X.prog X.w) X.A (call (.ref C) us (ks.zip ws)) (EP X pins σ Q) X.xe s := by
  have n1 : H (s.heap.objs.size + 1) = none := I.hok.fresh (Nat.le_succ _)
  have n2 : H s.heap.objs.size = none := I.hok.fresh (Nat.le_refl _)
  have q := told _ _ n1 n2 (Nat.ne_of_lt (Nat.lt_succ_self _))
  have J := Inv.made (C := C) I
  have rv : Vals (V.ref (s.heap.objs.size + 1) :: vs) (Value.ref (s.heap.objs.size + 1) :: us) := .cons rfl r
  have e1 : (Value.ref (s.heap.objs.size + 1) :: us).length = n + 1 := rv.length.symm.trans (congrArg Nat.succ l1)
  have e2 : ws.length = ks.length := rz.length.symm.trans l2
  have r2 := hb.rel rv rz
  refine wpAny_call (make_map (f := fI) I.kIn M.makes M.init (beq_iff_eq.mp M.fn) ?_)
  refine codeAny_mono (F.run _ X.stack _ _ ⟨Value.ref (s.heap.objs.size + 1) :: us, ks.zip ws⟩ (Value.ref (s.heap.objs.size + 1) :: us ++ ws) _ _ _ (hr.make C us (ks.zip ws)) (J.env0.make C us (ks.zip ws)) (hb.to _ (Value.ref (s.heap.objs.size + 1) :: us) ws J.kIn e1 e2) r2 q) fun r s2 out => ?_
  match r, out with
  | .error er, out => exact hx pins _ _ er s2 J out
  | .ok .next, out => exact False.elim out
  | .ok .brk, out => exact False.elim out
  | .ok .cont, out => exact False.elim out
  | .ok (.ret u), out =>
    obtain ⟨_, H2, J2, rel, rfl, z⟩ := J.after out
    exact ⟨rel, ⟨V.ref (s.heap.objs.size + 1), H2, J2, rfl, z⟩⟩
end
section
variable {X : Cx} {B : Bs} {W : WX} {p pos : Pos}
/-- C(k = e, ..) -/
theorem de_makeK0 {c : Str} {ps ks : List Str} {kb : List (Nat × List Str)} {k n l : Nat} {m : Fn} {kws : List Keyword} {nk : DEnv → Mu → Res (List D)} (M : MkK X.prog X.w X.K X.mg X.base c ps kb k m) (hr : Room (k + 1) X.A) (tk : Takes X W) (hg : Gl X c) (hb : (1, ks) ∈ kb) (hkw : DK X B W kws nk) (hn : ps.length = n := by rfl) (hl : ks.length = l := by rfl)
    (hall : (backToKw pos (keywordEach kws X.env)).all (·.1.isSome) = true := by rfl) (hks : (backToKw pos (keywordEach kws X.env)).filterMap (·.1) = ks := by rfl) (hdb : (c == ("__debug__" : Str)) = false := by decide)
    (hpl : ((backTo pos (starEach [] X.env)).any (·.1) || (backToKw pos (keywordEach kws X.env)).any (·.1.isNone)) = false := by rfl) :
    DE X B W (.Call (.Name c p) [] kws pos) (dCallK (fMake c n m) 0 l dNil nk) := by
  subst hn hl
  obtain ⟨C, fI, fd, hm, Mk', _, hk, F⟩ := M.ex
  refine ⟨⟨fun pins s σ H Q I ⟨ρ, G, env, μ, R, k⟩ => ?_⟩⟩
  apply wpAny_Call_Name_kw (ld_glob I hg hm ?_ hdb)
  have k : KE (tx X) B σ env W (PX (tx X) B σ env Q) ρ G (bindR (nk env μ) fun es μ => if ([] : List D).length = 0 ∧ es.length = ks.length then fMake c ps.length m ([] ++ es) μ else none) := k
  refine PySem.W.callWith_KW0 (h₀ := X.base) I.ok.mod.kin Mk'.kp hall ?_ hpl
  refine thn (hkw.run.run pos pins s σ H (fun zs H1 => zs.length = ks.length ∧ ∃ ρ1 G1 ds μ1, RD (tx X) B ρ1 G1 H1 σ env μ1 ∧ HReps (tx X) ρ1 G1 σ env zs ds ∧ KE (tx X) B σ env W (PX (tx X) B σ env Q) ρ1 G1 (fMake c ps.length m ds μ1)) I ⟨ρ, G, env, μ, R, (KE.bind (f := fun es μ => if ([] : List D).length = 0 ∧ es.length = ks.length then fMake c ps.length m ([] ++ es) μ else none) k).imp fun ρ1 G1 H1 μ1 ds s p R1 k1 zs hzs => ?_⟩) fun ws s1 ⟨zs, H1, I1, rel, lz, ρ1, G1, ds, μ1, R1, hvs, k1⟩ => ⟨I1.kIn, ?_⟩
  · split at k1
    · rename_i hl
      exact ⟨by rw [hzs.length, hl.2], ρ1, G1, ds, μ1, R1, hzs, k1⟩
    · exact k1.elim
  · rw [hks]
    exact made_insK (us := []) (vs := []) (n := 0) (E := fun σ cls d H => W cls d σ H) Mk' F hr (hk _ hb) (passAt tk σ) I1 .nil rel rfl lz fun x dx nx nd ne => sp_make R1 hm hvs k1 nx nd ne
theorem boot_max' : bootBuiltins "max" = some (.builtin "max") := by kernel_rfl
theorem max2_ {e : Expr} {es : List Expr} {n : DEnv → Mu → Res (List D)} (hm : X.mg "max" = none) (ha : DA X B W (e :: es) n) (hg : Gl X "max" := by rfl) (hc : X.calm = true := by rfl) (he : starEach (e :: es) X.env = (false, eval e X.env) :: starEach es X.env := by rfl) (hpl : (backTo pos (starEach es X.env)).any (·.1) = false := by rfl) :
    DE X B W (.Call (.Name "max" p) (e :: es) [] pos) (dCall fMax2 n) := de_callB (call_max2 hc) ca_max2 hg hm boot_max' ha (by decide) (by decide) he hpl
end
/-! ### lambdas by their place -/
def subSts : Stmt → List Stmt
  | .For _ _ b _ _ => b
  | .If _ b _ _ => b
  | _ => []
def noSt : Stmt := .Pass ⟨0, 0, 0, 0⟩
def stAt : List Stmt → List Nat → Stmt
  | ss, [i] => ss.getD i noSt
  | ss, i :: r => stAt (subSts (ss.getD i noSt)) r
  | _, [] => noSt
def listOf : Expr → List Expr
  | .List es _ => es
  | .BinOp _ _ r _ => listOf r
  | _ => []
def valOf : Stmt → Expr
  | .Assign _ e _ => e
  | _ => .Constant .none 0 ⟨0, 0, 0, 0⟩
def lamAt (st : Stmt) (i : Nat) : Expr := (listOf (valOf st)).getD i (.Constant .none 0 ⟨0, 0, 0, 0⟩)
def lamP : Expr → Arguments
  | .Lambda p _ _ _ => p
  | _ => ⟨[], [], none, [], [], none, []⟩
def lamBd : Expr → Expr
  | .Lambda _ b _ _ => b
  | e => e
def lamSc (d : Scope) : Expr → Scope
  | .Lambda _ _ s _ => s
  | _ => d
def mkLam (num : Nat) (q : Str) (dfl : Bool) (fr : List Str) (d : Scope) (e : Expr) : LamI := ⟨num, q, lamP e, lamBd e, lamSc d e, dfl, fr⟩
end Dv

namespace Lw_k21
open PySem PySem.Spec PyProof.Rows L2 Dv
def top (i : Nat) : Stmt := PySem.Challenge.pw_mendcalls_k21_schedules_told.main.body.getD i (.Pass ⟨0, 0, 0, 0⟩)
abbrev s__law_source : Stmt := top 16
abbrev N__law_source : List Str := ["_law_script"]
abbrev P__law_source : List Str := ["_law_script"]
abbrev s__law_draw : Stmt := top 17
abbrev N__law_draw : List Str := ["_law_src", "_law_many", "_law_cell", "_law_digit", "_law_seed"]
abbrev P__law_draw : List Str := ["_law_src", "_law_many"]
abbrev s__law_of : Stmt := top 18
abbrev N__law_of : List Str := ["_law_src", "_law_things"]
abbrev P__law_of : List Str := ["_law_src", "_law_things"]
abbrev s_is_integer : Stmt := top 7
abbrev N_is_integer : List Str := ["value"]
abbrev P_is_integer : List Str := ["value"]
abbrev s_is_within : Stmt := top 8
abbrev N_is_within : List Str := ["value", "low", "high"]
abbrev P_is_within : List Str := ["value", "low", "high"]
abbrev s_Late___init__ : Stmt := (clsBody (top 12)).getD 0 (.Pass ⟨0, 0, 0, 0⟩)
abbrev N_Late___init__ : List Str := ["self", "calls"]
abbrev P_Late___init__ : List Str := ["self", "calls"]
abbrev s_Rounds___init__ : Stmt := (clsBody (top 13)).getD 0 (.Pass ⟨0, 0, 0, 0⟩)
abbrev N_Rounds___init__ : List Str := ["self", "calls"]
abbrev P_Rounds___init__ : List Str := ["self", "calls"]
abbrev s__law_like : Stmt := top 19
abbrev N__law_like : List Str := ["_law_found", "_law_due", "_law_one", "_law_other"]
abbrev P__law_like : List Str := ["_law_found", "_law_due"]
abbrev s_Schedule_text : Stmt := (clsBody (top 10)).getD 2 (.Pass ⟨0, 0, 0, 0⟩)
abbrev N_Schedule_text : List Str := ["self"]
abbrev P_Schedule_text : List Str := ["self"]
abbrev s_Now_text : Stmt := (clsBody (top 11)).getD 2 (.Pass ⟨0, 0, 0, 0⟩)
abbrev N_Now_text : List Str := ["self"]
abbrev P_Now_text : List Str := ["self"]
abbrev s_Late_text : Stmt := (clsBody (top 12)).getD 4 (.Pass ⟨0, 0, 0, 0⟩)
abbrev N_Late_text : List Str := ["self"]
abbrev P_Late_text : List Str := ["self"]
abbrev s_Rounds_text : Stmt := (clsBody (top 13)).getD 4 (.Pass ⟨0, 0, 0, 0⟩)
abbrev N_Rounds_text : List Str := ["self"]
abbrev P_Rounds_text : List Str := ["self"]
abbrev s_Never_text : Stmt := (clsBody (top 14)).getD 0 (.Pass ⟨0, 0, 0, 0⟩)
abbrev N_Never_text : List Str := ["self"]
abbrev P_Never_text : List Str := ["self"]
abbrev s_Schedule___repr__ : Stmt := (clsBody (top 10)).getD 5 (.Pass ⟨0, 0, 0, 0⟩)
abbrev N_Schedule___repr__ : List Str := ["self"]
abbrev P_Schedule___repr__ : List Str := ["self"]
abbrev s_Schedule_reported : Stmt := (clsBody (top 10)).getD 0 (.Pass ⟨0, 0, 0, 0⟩)
abbrev N_Schedule_reported : List Str := ["self", "count"]
abbrev P_Schedule_reported : List Str := ["self", "count"]
abbrev s_Now_reported : Stmt := (clsBody (top 11)).getD 0 (.Pass ⟨0, 0, 0, 0⟩)
abbrev N_Now_reported : List Str := ["self", "count"]
abbrev P_Now_reported : List Str := ["self", "count"]
abbrev s_Late_reported : Stmt := (clsBody (top 12)).getD 2 (.Pass ⟨0, 0, 0, 0⟩)
abbrev N_Late_reported : List Str := ["self", "count"]
abbrev P_Late_reported : List Str := ["self", "count"]
abbrev s_Rounds_reported : Stmt := (clsBody (top 13)).getD 2 (.Pass ⟨0, 0, 0, 0⟩)
abbrev N_Rounds_reported : List Str := ["self", "count"]
abbrev P_Rounds_reported : List Str := ["self", "count"]
abbrev s_Schedule_read : Stmt := (clsBody (top 10)).getD 3 (.Pass ⟨0, 0, 0, 0⟩)
abbrev N_Schedule_read : List Str := ["text", "found", "schedule", "calls"]
abbrev P_Schedule_read : List Str := ["text"]
abbrev s_Schedule___eq__ : Stmt := (clsBody (top 10)).getD 4 (.Pass ⟨0, 0, 0, 0⟩)
abbrev N_Schedule___eq__ : List Str := ["self", "other"]
abbrev P_Schedule___eq__ : List Str := ["self", "other"]
abbrev s__law_field : Stmt := top 20
abbrev N__law_field : List Str := ["_law_e"]
abbrev P__law_field : List Str := ["_law_e"]
abbrev s__law_why : Stmt := top 21
abbrev N__law_why : List Str := ["_law_ask", "_law_e"]
abbrev P__law_why : List Str := ["_law_ask"]
abbrev s__law_whys : Stmt := top 22
abbrev N__law_whys : List Str := ["_law_asks", "_law_ask"]
abbrev P__law_whys : List Str := ["_law_asks"]
abbrev s_Late_span : Stmt := (clsBody (top 12)).getD 1 (.Pass ⟨0, 0, 0, 0⟩)
abbrev N_Late_span : List Str := ["self"]
abbrev P_Late_span : List Str := ["self"]
abbrev s_Rounds_span : Stmt := (clsBody (top 13)).getD 1 (.Pass ⟨0, 0, 0, 0⟩)
abbrev N_Rounds_span : List Str := ["self"]
abbrev P_Rounds_span : List Str := ["self"]
abbrev s_Schedule_can_leave : Stmt := (clsBody (top 10)).getD 1 (.Pass ⟨0, 0, 0, 0⟩)
abbrev N_Schedule_can_leave : List Str := ["self", "count"]
abbrev P_Schedule_can_leave : List Str := ["self", "count"]
abbrev s_Now_can_leave : Stmt := (clsBody (top 11)).getD 1 (.Pass ⟨0, 0, 0, 0⟩)
abbrev N_Now_can_leave : List Str := ["self", "count"]
abbrev P_Now_can_leave : List Str := ["self", "count"]
abbrev s_Late_can_leave : Stmt := (clsBody (top 12)).getD 3 (.Pass ⟨0, 0, 0, 0⟩)
abbrev N_Late_can_leave : List Str := ["self", "count"]
abbrev P_Late_can_leave : List Str := ["self", "count"]
abbrev s_Rounds_can_leave : Stmt := (clsBody (top 13)).getD 3 (.Pass ⟨0, 0, 0, 0⟩)
abbrev N_Rounds_can_leave : List Str := ["self", "count"]
abbrev P_Rounds_can_leave : List Str := ["self", "count"]
abbrev s_law : Stmt := top 23
abbrev N_law : List Str := ["_law_script", "_law_src", "_law_made", "_law_texts", "_law_count", "_law_found", "_law_due", "_law_left", "_law_at", "_law_late", "_law_odd", "_law_text", "_law_asks", "_law_kinds", "_law_one", "_law_k"]
abbrev P_law : List Str := ["_law_script"]
abbrev i_InvalidNumber : Stmt := (clsBody (top 3)).getD 0 (.Pass ⟨0, 0, 0, 0⟩)
abbrev i_InvalidSchedule : Stmt := (clsBody (top 4)).getD 0 (.Pass ⟨0, 0, 0, 0⟩)
/-- the errors that may be met, their fields -/
def fc : Str → List Str := fcs [("InvalidNumber", some "given"), ("InvalidSchedule", some "given")]
def otb : List (Str × List Str) := [("Schedule", ["Schedule"]), ("Now", ["Now", "Schedule"]), ("Late", ["Late", "Schedule"]), ("Rounds", ["Rounds", "Schedule"]), ("Never", ["Never", "Schedule"])]
def oanc (c : Str) : List Str := (otb.lookup c).getD []
def ocs : List Str := ["Schedule", "Now", "Late", "Rounds", "Never"]
def oxs : List Str := ["Schedule", "Now", "Rounds"]
def fd_own_calls : List Str := ["Late", "Rounds"]
def okp : List (Str × Str) := [("Schedule", "Schedule"), ("Now", "Schedule"), ("Now", "Now"), ("Now", "Late"), ("Now", "Rounds"), ("Now", "Never"), ("Late", "Schedule"), ("Late", "Now"), ("Late", "Late"), ("Late", "Rounds"), ("Late", "Never"), ("Rounds", "Schedule"), ("Rounds", "Now"), ("Rounds", "Late"), ("Rounds", "Rounds"), ("Rounds", "Never"), ("Never", "Schedule"), ("Never", "Now"), ("Never", "Late"), ("Never", "Rounds"), ("Never", "Never")]
abbrev le_0 : Expr := lamAt (stAt (defBody s_law) [16]) 0
def lam_0 : LamI := mkLam 0 "law.<locals>.<lambda>" false ["_law_odd"] (defScope s_law) le_0
abbrev N_lam_0 : List Str := ["_law_odd"]
abbrev le_1 : Expr := lamAt (stAt (defBody s_law) [16]) 1
def lam_1 : LamI := mkLam 1 "law.<locals>.<lambda>" true ["_law_odd"] (defScope s_law) le_1
abbrev N_lam_1 : List Str := ["_law_a", "_law_odd"]
abbrev le_2 : Expr := lamAt (stAt (defBody s_law) [16]) 2
def lam_2 : LamI := mkLam 2 "law.<locals>.<lambda>" true [] (defScope s_law) le_2
abbrev N_lam_2 : List Str := ["_law_b"]
abbrev le_3 : Expr := lamAt (stAt (defBody s_law) [16]) 3
def lam_3 : LamI := mkLam 3 "law.<locals>.<lambda>" true ["_law_text"] (defScope s_law) le_3
abbrev N_lam_3 : List Str := ["_law_c", "_law_text"]
/-! ### meanings -/
def b__law_source : DSt := (dRet (dLst (dCons (dCall fList (dCons (dSl (dVar 0) dNoPart (dPart (dC (.int 63)))) dNil)) (dCons (dC (.int 0)) (dCons (dC (.int 0)) (dCons (dC (.int 10014)) (dCons (dC (.int 0)) dNil)))))))
def m__law_source : Fn := adopt (cleanD (defD 1 b__law_source))
abbrev b__law_draw : DSt := bDraw
abbrev m__law_draw : Fn := mDraw
abbrev b__law_of : DSt := bOf
abbrev m__law_of : Fn := mOf
def b_is_integer : DSt := (dRet (dAndV (dCall fIsi (dCons (dVar 0) (dCons (dC (.ty "int")) dNil))) (dNotV (dCall fIsi (dCons (dVar 0) (dCons (dC (.ty "bool")) dNil))))))
def m_is_integer : Fn := cleanD (defD 1 b_is_integer)
def b_is_within : DSt := (dRet (dAndV (dCall (fCall 1 m_is_integer) (dCons (dVar 0) dNil)) (dChain (fCmp fun i j => decide (i ≤ j)) (fCmp fun i j => decide (i ≤ j)) (dVar 1) (dVar 0) (dVar 2))))
def m_is_within : Fn := cleanD (defD 3 b_is_within)
def b_Late___init__ : DSt := (dSeq (dIfS (dNotT (dTest (dCall (fCall 3 m_is_within) (dCons (dVar 1) (dCons (dC (.int 1)) (dCons (dC (.int 3)) dNil)))))) (dRaise "InvalidNumber" "given" "InvalidNumber" (dCons (dVar 1) dNil)) dSkip)
  (dSetF fd_own_calls "own_calls" (dVar 1) (dVar 0)))
def m_Late___init__ : Fn := cleanD (defD 2 b_Late___init__)
def b_Rounds___init__ : DSt := (dSeq (dIfS (dNotT (dTest (dCall (fCall 3 m_is_within) (dCons (dVar 1) (dCons (dC (.int 2)) (dCons (dC (.int 3)) dNil)))))) (dRaise "InvalidNumber" "given" "InvalidNumber" (dCons (dVar 1) dNil)) dSkip)
  (dSetF fd_own_calls "own_calls" (dVar 1) (dVar 0)))
def m_Rounds___init__ : Fn := cleanD (defD 2 b_Rounds___init__)
abbrev m__law_like : Nat → Fn := mLike
def b_Schedule_text : DSt := (dRet (dC (.str "unknown")))
def m_Schedule_text : Fn := cleanD (defD 1 b_Schedule_text)
def b_Now_text : DSt := (dRet (dC (.str "now")))
def m_Now_text : Fn := cleanD (defD 1 b_Now_text)
def b_Late_text : DSt := (dRet (dJoin [(dC (.str "late ")), (dFmt (dFld fd_own_calls "own_calls" (dVar 0)))]))
def m_Late_text : Fn := cleanD (defD 1 b_Late_text)
def b_Rounds_text : DSt := (dRet (dJoin [(dC (.str "rounds ")), (dFmt (dFld fd_own_calls "own_calls" (dVar 0)))]))
def m_Rounds_text : Fn := cleanD (defD 1 b_Rounds_text)
def b_Never_text : DSt := (dRet (dC (.str "never")))
def m_Never_text : Fn := cleanD (defD 1 b_Never_text)
def tb_text : List (Str × Fn) := [("Schedule", m_Schedule_text), ("Now", m_Now_text), ("Late", m_Late_text), ("Rounds", m_Rounds_text), ("Never", m_Never_text)]
def b_Schedule___repr__ : DSt := (dRet (dJoin [(dC (.str "Schedule(")), (dFmt (dPropT tb_text (dVar 0))), (dC (.str ")"))]))
def m_Schedule___repr__ : Fn := cleanD (defD 1 b_Schedule___repr__)
def tb_repr : List (Str × Fn) := [("Schedule", m_Schedule___repr__), ("Now", m_Schedule___repr__), ("Late", m_Schedule___repr__), ("Rounds", m_Schedule___repr__), ("Never", m_Schedule___repr__)]
def b_Schedule_reported : DSt := (dRet (dC (.int 0)))
def m_Schedule_reported : Fn := cleanD (defD 2 b_Schedule_reported)
def b_Now_reported : DSt := (dRet (dVar 1))
def m_Now_reported : Fn := cleanD (defD 2 b_Now_reported)
def b_Late_reported : DSt := (dRet (dCall fMax2 (dCons (dC (.int 0)) (dCons (dBin fSub (dVar 1) (dFld fd_own_calls "own_calls" (dVar 0))) dNil))))
def m_Late_reported : Fn := cleanD (defD 2 b_Late_reported)
def b_Rounds_reported : DSt := (dRet (dIf (dTest (dBin fEq (dVar 1) (dFld fd_own_calls "own_calls" (dVar 0)))) (dVar 1) (dC (.int 0))))
def m_Rounds_reported : Fn := cleanD (defD 2 b_Rounds_reported)
def tb_reported : List (Str × Fn) := [("Schedule", m_Schedule_reported), ("Now", m_Now_reported), ("Late", m_Late_reported), ("Rounds", m_Rounds_reported), ("Never", m_Schedule_reported)]
def b_Schedule_read : DSt := (dSeq (dAsg (dLst (dCons (dPlain "Now") (dCons (dPlain "Never") (dStar (dLc (dIter (dTup (dCons (dC (.int 1)) (dCons (dC (.int 2)) (dCons (dC (.int 3)) dNil))))) [3] (tName 3) dYes (dCall (fMake "Late" 2 m_Late___init__) (dCons (dVar 3) dNil))) (dStar (dLc (dIter (dTup (dCons (dC (.int 2)) (dCons (dC (.int 3)) dNil)))) [3] (tName 3) dYes (dCall (fMake "Rounds" 2 m_Rounds___init__) (dCons (dVar 3) dNil))) dNil))))) (tName 1))
  (dSeq (dFor (dIter (dVar 1)) (tName 2) (dIfS (dAndT (dTest (dCall fIsi (dCons (dVar 0) (dCons (dC (.ty "str")) dNil)))) (dTest (dBin fEq (dPropT tb_text (dVar 2)) (dVar 0)))) (dRet (dVar 2)) dSkip))
  (dRaise "InvalidSchedule" "given" "InvalidSchedule" (dCons (dVar 0) dNil))))
def m_Schedule_read : Fn := cleanD (defD 4 b_Schedule_read)
def b_Schedule___eq__ : DSt := (dSeq (dIfS (dNotT (dTest (dCall (fIsiO ocs oxs oanc) (dCons (dVar 1) (dCons (dC (.glo "Schedule")) dNil))))) (dRet (dC (.bl false))) dSkip)
  (dRet (dBin fEq (dPropT tb_text (dVar 0)) (dPropT tb_text (dVar 1)))))
def m_Schedule___eq__ : Fn := cleanD (defD 2 b_Schedule___eq__)
def tb_eq : List (Str × Fn) := [("Schedule", m_Schedule___eq__), ("Now", m_Schedule___eq__), ("Late", m_Schedule___eq__), ("Rounds", m_Schedule___eq__), ("Never", m_Schedule___eq__)]
def lb_0 : DEx := (dCall (fMake "Late" 2 m_Late___init__) (dCons (dVar 0) dNil))
def lm_0 : List D → Mu → Res D := lamM N_lam_0.length lam_0 lb_0
def lb_1 : DEx := (dCall (fMake "Rounds" 2 m_Rounds___init__) (dCons (dVar 1) dNil))
def lm_1 : List D → Mu → Res D := lamM N_lam_1.length lam_1 lb_1
def lb_2 : DEx := (dCall (fMake "Rounds" 2 m_Rounds___init__) (dCons (dC (.int 1)) dNil))
def lm_2 : List D → Mu → Res D := lamM N_lam_2.length lam_2 lb_2
def lb_3 : DEx := (dCall (fCall 1 m_Schedule_read) (dCons (dVar 1) dNil))
def lm_3 : List D → Mu → Res D := lamM N_lam_3.length lam_3 lb_3
def lams : Nat → LamI := fun i => match i with
  | 0 => lam_0
  | 1 => lam_1
  | 2 => lam_2
  | _ => lam_3
def ltab : Nat → List D → Mu → Res D := fun i => match i with
  | 0 => lm_0
  | 1 => lm_1
  | 2 => lm_2
  | _ => lm_3
noncomputable def m__law_why : Fn := mWhyC fc 4 lams ltab
noncomputable def b__law_whys : DSt := (dRet (dLc (dIter (dVar 0)) [1] (tName 1) dYes (dCall (fCall 1 m__law_why) (dCons (dVar 1) dNil))))
noncomputable def m__law_whys : Fn := cleanD (defD 2 b__law_whys)
def b_Late_span : DSt := (dRet (dFld fd_own_calls "own_calls" (dVar 0)))
def m_Late_span : Fn := cleanD (defD 1 b_Late_span)
def b_Rounds_span : DSt := (dRet (dFld fd_own_calls "own_calls" (dVar 0)))
def m_Rounds_span : Fn := cleanD (defD 1 b_Rounds_span)
def tb_span : List (Str × Fn) := [("Late", m_Late_span), ("Rounds", m_Rounds_span)]
def b_Schedule_can_leave : DSt := (dRet (dC (.bl true)))
def m_Schedule_can_leave : Fn := cleanD (defD 2 b_Schedule_can_leave)
def b_Now_can_leave : DSt := (dRet (dBin fEq (dVar 1) (dC (.int 0))))
def m_Now_can_leave : Fn := cleanD (defD 2 b_Now_can_leave)
def b_Late_can_leave : DSt := (dRet (dBin (fCmp fun i j => decide (i ≤ j)) (dVar 1) (dFld fd_own_calls "own_calls" (dVar 0))))
def m_Late_can_leave : Fn := cleanD (defD 2 b_Late_can_leave)
def b_Rounds_can_leave : DSt := (dRet (dBin (fCmp fun i j => decide (i < j)) (dVar 1) (dFld fd_own_calls "own_calls" (dVar 0))))
def m_Rounds_can_leave : Fn := cleanD (defD 2 b_Rounds_can_leave)
def tb_can_leave : List (Str × Fn) := [("Schedule", m_Schedule_can_leave), ("Now", m_Now_can_leave), ("Late", m_Late_can_leave), ("Rounds", m_Rounds_can_leave), ("Never", m_Schedule_can_leave)]
noncomputable def b_law (cells : List (Str × Addr)) : DSt := (dSeq (dAsg (dCall (fCall 1 m__law_source) (dCons (dVar 0) dNil)) (tName 1))
  (dSeq (dAsg (dLst (dCons (dPlain "Now") (dCons (dCall (fMake "Late" 2 m_Late___init__) (dCons (dC (.int 1)) dNil)) (dCons (dCallK (fMake "Late" 2 m_Late___init__) 0 1 dNil (dCons (dC (.int 2)) dNil)) (dCons (dCall (fMake "Late" 2 m_Late___init__) (dCons (dC (.int 3)) dNil)) (dCons (dCall (fMake "Rounds" 2 m_Rounds___init__) (dCons (dC (.int 2)) dNil)) (dCons (dCallK (fMake "Rounds" 2 m_Rounds___init__) 0 1 dNil (dCons (dC (.int 3)) dNil)) (dCons (dPlain "Never") (dCons (dPlain "Schedule") dNil))))))))) (tName 2))
  (dSeq (dAsg (dLst (dCons (dC (.str "now")) (dCons (dC (.str "late 1")) (dCons (dC (.str "late 2")) (dCons (dC (.str "late 3")) (dCons (dC (.str "rounds 2")) (dCons (dC (.str "rounds 3")) (dCons (dC (.str "never")) (dCons (dC (.str "unknown")) dNil))))))))) (tName 3))
  (dSeq (dIfS (dNotT (dTest (dCall (fCall 2 (mLike 12)) (dCons (dLc (dIter (dVar 2)) [14] (tName 14) dYes (dPropT tb_text (dVar 14))) (dCons (dVar 3) dNil))))) (dRet (dC (.bl false))) dSkip)
  (dSeq (dIfS (dTest (dBin fNe (dLc (dIter (dVar 2)) [14] (tName 14) dYes (dCall (fRepr tb_repr) (dCons (dVar 14) dNil))) (dLc (dIter (dVar 3)) [11] (tName 11) dYes (dBin fAdd (dBin fAdd (dC (.str "Schedule(")) (dVar 11)) (dC (.str ")")))))) (dRet (dC (.bl false))) dSkip)
  (dSeq (dAsg (dBin fAdd (dC (.int 1)) (dCall (fCall 2 mDraw) (dCons (dVar 1) (dCons (dC (.int 9)) dNil)))) (tName 4))
  (dSeq (dAsg (dLc (dIter (dVar 2)) [14] (tName 14) dYes (dMethT "reported" 2 tb_reported (dVar 14) (dCons (dVar 4) dNil))) (tName 5))
  (dSeq (dAsg (dLst (dCons (dVar 4) (dCons (dCall fMax2 (dCons (dC (.int 0)) (dCons (dBin fSub (dVar 4) (dC (.int 1))) dNil))) (dCons (dCall fMax2 (dCons (dC (.int 0)) (dCons (dBin fSub (dVar 4) (dC (.int 2))) dNil))) (dCons (dCall fMax2 (dCons (dC (.int 0)) (dCons (dBin fSub (dVar 4) (dC (.int 3))) dNil))) (dCons (dIf (dTest (dBin fEq (dVar 4) (dC (.int 2)))) (dVar 4) (dC (.int 0))) dNil)))))) (tName 6))
  (dSeq (dAsg (dBin fAdd (dVar 6) (dLst (dCons (dIf (dTest (dBin fEq (dVar 4) (dC (.int 3)))) (dVar 4) (dC (.int 0))) (dCons (dC (.int 0)) (dCons (dC (.int 0)) dNil))))) (tName 6))
  (dSeq (dIfS (dOrT (dNotT (dTest (dCall (fCall 2 (mLike 12)) (dCons (dVar 5) (dCons (dVar 6) dNil))))) (dNotT (dTest (dCall (fCall 2 (mLike 12)) (dCons (dLc (dIter (dSl (dVar 2) (dPart (dC (.int 1))) (dPart (dC (.int 6))))) [14] (tName 14) dYes (dPropT tb_span (dVar 14))) (dCons (dLst (dCons (dC (.int 1)) (dCons (dC (.int 2)) (dCons (dC (.int 3)) (dCons (dC (.int 2)) (dCons (dC (.int 3)) dNil)))))) dNil)))))) (dRet (dC (.bl false))) dSkip)
  (dSeq (dAsg (dBin fSub (dVar 4) (dC (.int 1))) (tName 7))
  (dSeq (dAsg (dLst (dCons (dBin fEq (dVar 7) (dC (.int 0))) (dCons (dBin (fCmp fun i j => decide (i ≤ j)) (dVar 7) (dC (.int 1))) (dCons (dBin (fCmp fun i j => decide (i ≤ j)) (dVar 7) (dC (.int 2))) (dCons (dBin (fCmp fun i j => decide (i ≤ j)) (dVar 7) (dC (.int 3))) (dCons (dBin (fCmp fun i j => decide (i < j)) (dVar 7) (dC (.int 2))) (dCons (dBin (fCmp fun i j => decide (i < j)) (dVar 7) (dC (.int 3))) (dCons (dC (.bl true)) (dCons (dC (.bl true)) dNil))))))))) (tName 6))
  (dSeq (dIfS (dNotT (dTest (dCall (fCall 2 (mLike 12)) (dCons (dLc (dIter (dVar 2)) [14] (tName 14) dYes (dMethT "can_leave" 2 tb_can_leave (dVar 14) (dCons (dVar 7) dNil))) (dCons (dVar 6) dNil))))) (dRet (dC (.bl false))) dSkip)
  (dSeq (dFor (dArg fRange1 (dCons (dC (.int 7)) dNil)) (tName 8) (dSeq (dAsg (dCall (fCall 1 m_Schedule_read) (dCons (dBin fIxS (dVar 3) (dVar 8)) dNil)) (tName 9))
  (dSeq (dIfS (dOrT (dTest (dBin fNe (dLc (dIter (dVar 2)) [14] (tName 14) dYes (dBin (fEqO tb_eq okp) (dVar 9) (dVar 14))) (dLc (dArg fRange1 (dCons (dC (.int 8)) dNil)) [15] (tName 15) dYes (dBin fEq (dVar 15) (dVar 8))))) (dTest (dBin (fEqO tb_eq okp) (dVar 9) (dBin fIxS (dVar 3) (dVar 8))))) (dRet (dC (.bl false))) dSkip)
  (dIfS (dOrT (dNotT (dTest (dCall (fIsiO ocs oxs oanc) (dCons (dVar 9) (dCons (dC (.glo "Schedule")) dNil))))) (dTest (dBin (fIsB true) (dBin (fNeO tb_eq okp) (dBin fIxS (dVar 2) (dVar 8)) (dVar 9)) (dC (.bl false))))) (dRet (dC (.bl false))) dSkip))))
  (dSeq (dAsg (dCall (fCall 2 mOf) (dCons (dVar 1) (dCons (dLst (dCons (dC (.int 0)) (dCons (dC (.int 4)) (dCons (dC .non) (dCons (dC (.bl true)) (dCons (dC (.str "1")) (dCons (dBin fSub (dC (.int 0)) (dC (.int 1))) dNil))))))) dNil))) (tName 10))
  (dSeq (dAsg (dCall (fCall 2 mOf) (dCons (dVar 1) (dCons (dLst (dCons (dC (.str "")) (dCons (dC (.str "Now")) (dCons (dC (.str "late")) (dCons (dC (.str "late 0")) (dCons (dC (.str "late 4")) (dCons (dC (.str "late  1")) (dCons (dC (.str "rounds 1")) (dCons (dC (.str "rounds 4")) (dCons (dC (.str "unknown")) (dCons (dC .non) (dCons (dC (.int 3)) (dCons (dTup (dCons (dC (.str "now")) dNil)) (dCons (dC (.str "never ")) (dCons (dC (.str "now\n")) dNil))))))))))))))) dNil))) (tName 11))
  (dSeq (dAsg (dLst (dCons (dLamV 0 ("law", none) (cloFrom cells lam_0.scope.names []) lam_0) (dCons (dLamV 0 ("law", none) (cloFrom cells lam_1.scope.names []) lam_1) (dCons (dLamV 0 ("law", none) (cloFrom cells lam_2.scope.names []) lam_2) (dCons (dLamV 0 ("law", none) (cloFrom cells lam_3.scope.names []) lam_3) dNil))))) (tName 12))
  (dSeq (dAsg (dLst (dCons (dTup (dCons (dC (.str "InvalidNumber")) (dCons (dVar 10) dNil))) (dCons (dTup (dCons (dC (.str "InvalidNumber")) (dCons (dVar 10) dNil))) (dCons (dTup (dCons (dC (.str "InvalidNumber")) (dCons (dC (.int 1)) dNil))) (dCons (dTup (dCons (dC (.str "InvalidSchedule")) (dCons (dVar 11) dNil))) dNil))))) (tName 6))
  (dSeq (dAsg (dBin fAdd (dLc (dIter (dVar 2)) [14] (tName 14) dYes (dCall (fIsiO ocs oxs oanc) (dCons (dVar 14) (dCons (dC (.glo "Schedule")) dNil)))) (dLst (dCons (dCall (fIsiO ocs oxs oanc) (dCons (dBin fIxS (dVar 2) (dC (.int 1))) (dCons (dC (.glo "Rounds")) dNil))) (dCons (dCall (fIsiO ocs oxs oanc) (dCons (dBin fIxS (dVar 2) (dC (.int 6))) (dCons (dC (.glo "Now")) dNil))) dNil)))) (tName 13))
  (dRet (dAndV (dCall (fCall 2 (mLike 12)) (dCons (dClos m__law_whys N_law (defScope s_law) cells (dVar 12)) (dCons (dVar 6) dNil))) (dBin fEq (dVar 13) (dBin fAdd (dBin fMul (dLst (dCons (dC (.bl true)) dNil)) (dC (.int 8))) (dLst (dCons (dC (.bl false)) (dCons (dC (.bl false)) dNil))))))))))))))))))))))))))
noncomputable def m_law (cells : List (Str × Addr)) : Fn := cleanD (defD N_law.length (b_law cells))
/-! ### what the module holds -/
structure GS (K : PySem.W.Frag) (mg : Str → Option Value) : Prop where
  f_all : mg "all" = none
  f_bool : mg "bool" = none
  f_int : mg "int" = none
  f_isinstance : mg "isinstance" = none
  f_len : mg "len" = none
  f_list : mg "list" = none
  f_max : mg "max" = none
  f_range : mg "range" = none
  f_repr : mg "repr" = none
  f_str : mg "str" = none
  f_super : mg "super" = none
  f_tuple : mg "tuple" = none
  f_zip : mg "zip" = none
  d__law_source : ∃ f fd, mg "_law_source" = some (.ref f) ∧ FunD K "_law_source" "_law_source" (defArgs s__law_source) (defBody s__law_source) (defScope s__law_source) [] [] f fd
  d__law_draw : ∃ f fd, mg "_law_draw" = some (.ref f) ∧ FunD K "_law_draw" "_law_draw" (defArgs s__law_draw) (defBody s__law_draw) (defScope s__law_draw) [] [] f fd
  d__law_of : ∃ f fd, mg "_law_of" = some (.ref f) ∧ FunD K "_law_of" "_law_of" (defArgs s__law_of) (defBody s__law_of) (defScope s__law_of) [] [] f fd
  d_is_integer : ∃ f fd, mg "is_integer" = some (.ref f) ∧ FunD K "is_integer" "is_integer" (defArgs s_is_integer) (defBody s_is_integer) (defScope s_is_integer) [] [] f fd
  d_is_within : ∃ f fd, mg "is_within" = some (.ref f) ∧ FunD K "is_within" "is_within" (defArgs s_is_within) (defBody s_is_within) (defScope s_is_within) [] [] f fd
  d_Late___init__ : ∃ fd, FunD K "__init__" "Late.__init__" (defArgs s_Late___init__) (defBody s_Late___init__) (defScope s_Late___init__) [] [] (methAt "Late" "__init__" K) fd
  d_Rounds___init__ : ∃ fd, FunD K "__init__" "Rounds.__init__" (defArgs s_Rounds___init__) (defBody s_Rounds___init__) (defScope s_Rounds___init__) [] [] (methAt "Rounds" "__init__" K) fd
  d__law_like : ∃ f fd, mg "_law_like" = some (.ref f) ∧ FunD K "_law_like" "_law_like" (defArgs s__law_like) (defBody s__law_like) (defScope s__law_like) [] [] f fd
  d_Schedule_text : ∃ fd, FunD K "text" "Schedule.text" (defArgs s_Schedule_text) (defBody s_Schedule_text) (defScope s_Schedule_text) [] [] (propAt "Schedule" "text" K) fd
  d_Now_text : ∃ fd, FunD K "text" "Now.text" (defArgs s_Now_text) (defBody s_Now_text) (defScope s_Now_text) [] [] (propAt "Now" "text" K) fd
  d_Late_text : ∃ fd, FunD K "text" "Late.text" (defArgs s_Late_text) (defBody s_Late_text) (defScope s_Late_text) [] [] (propAt "Late" "text" K) fd
  d_Rounds_text : ∃ fd, FunD K "text" "Rounds.text" (defArgs s_Rounds_text) (defBody s_Rounds_text) (defScope s_Rounds_text) [] [] (propAt "Rounds" "text" K) fd
  d_Never_text : ∃ fd, FunD K "text" "Never.text" (defArgs s_Never_text) (defBody s_Never_text) (defScope s_Never_text) [] [] (propAt "Never" "text" K) fd
  d_Schedule___repr__ : ∃ fd, FunD K "__repr__" "Schedule.__repr__" (defArgs s_Schedule___repr__) (defBody s_Schedule___repr__) (defScope s_Schedule___repr__) [] [] (methAt "Schedule" "__repr__" K) fd
  d_Schedule_reported : ∃ fd, FunD K "reported" "Schedule.reported" (defArgs s_Schedule_reported) (defBody s_Schedule_reported) (defScope s_Schedule_reported) [] [] (methAt "Schedule" "reported" K) fd
  d_Now_reported : ∃ fd, FunD K "reported" "Now.reported" (defArgs s_Now_reported) (defBody s_Now_reported) (defScope s_Now_reported) [] [] (methAt "Now" "reported" K) fd
  d_Late_reported : ∃ fd, FunD K "reported" "Late.reported" (defArgs s_Late_reported) (defBody s_Late_reported) (defScope s_Late_reported) [] [] (methAt "Late" "reported" K) fd
  d_Rounds_reported : ∃ fd, FunD K "reported" "Rounds.reported" (defArgs s_Rounds_reported) (defBody s_Rounds_reported) (defScope s_Rounds_reported) [] [] (methAt "Rounds" "reported" K) fd
  d_Schedule_read : ∃ fd, FunD K "read" "Schedule.read" (defArgs s_Schedule_read) (defBody s_Schedule_read) (defScope s_Schedule_read) [] [] (statAt "Schedule" "read" K) fd
  d_Schedule___eq__ : ∃ fd, FunD K "__eq__" "Schedule.__eq__" (defArgs s_Schedule___eq__) (defBody s_Schedule___eq__) (defScope s_Schedule___eq__) [] [] (methAt "Schedule" "__eq__" K) fd
  d__law_field : ∃ f fd, mg "_law_field" = some (.ref f) ∧ FunD K "_law_field" "_law_field" (defArgs s__law_field) (defBody s__law_field) (defScope s__law_field) [] [] f fd
  d__law_why : ∃ f fd, mg "_law_why" = some (.ref f) ∧ FunD K "_law_why" "_law_why" (defArgs s__law_why) (defBody s__law_why) (defScope s__law_why) [] [] f fd
  d__law_whys : ∃ f fd, mg "_law_whys" = some (.ref f) ∧ FunD K "_law_whys" "_law_whys" (defArgs s__law_whys) (defBody s__law_whys) (defScope s__law_whys) [] [] f fd
  d_Late_span : ∃ fd, FunD K "span" "Late.span" (defArgs s_Late_span) (defBody s_Late_span) (defScope s_Late_span) [] [] (propAt "Late" "span" K) fd
  d_Rounds_span : ∃ fd, FunD K "span" "Rounds.span" (defArgs s_Rounds_span) (defBody s_Rounds_span) (defScope s_Rounds_span) [] [] (propAt "Rounds" "span" K) fd
  d_Schedule_can_leave : ∃ fd, FunD K "can_leave" "Schedule.can_leave" (defArgs s_Schedule_can_leave) (defBody s_Schedule_can_leave) (defScope s_Schedule_can_leave) [] [] (methAt "Schedule" "can_leave" K) fd
  d_Now_can_leave : ∃ fd, FunD K "can_leave" "Now.can_leave" (defArgs s_Now_can_leave) (defBody s_Now_can_leave) (defScope s_Now_can_leave) [] [] (methAt "Now" "can_leave" K) fd
  d_Late_can_leave : ∃ fd, FunD K "can_leave" "Late.can_leave" (defArgs s_Late_can_leave) (defBody s_Late_can_leave) (defScope s_Late_can_leave) [] [] (methAt "Late" "can_leave" K) fd
  d_Rounds_can_leave : ∃ fd, FunD K "can_leave" "Rounds.can_leave" (defArgs s_Rounds_can_leave) (defBody s_Rounds_can_leave) (defScope s_Rounds_can_leave) [] [] (methAt "Rounds" "can_leave" K) fd
  m_CallError : mg "CallError" = some (.ref (He.ga K "CallError"))
  m_Missing : mg "Missing" = some (.ref (He.ga K "Missing"))
  m_NothingLeft : mg "NothingLeft" = some (.ref (He.ga K "NothingLeft"))
  m_Schedule : mg "Schedule" = some (.ref (He.ga K "Schedule"))
  m_Now : mg "Now" = some (.ref (He.ga K "Now"))
  m_Late : mg "Late" = some (.ref (He.ga K "Late"))
  m_Rounds : mg "Rounds" = some (.ref (He.ga K "Rounds"))
  m_Never : mg "Never" = some (.ref (He.ga K "Never"))
  i_Schedule : InsI K (He.ga K "Schedule")
  i_Now : InsI K (He.ga K "Now")
  i_Late : InsI K (He.ga K "Late")
  i_Rounds : InsI K (He.ga K "Rounds")
  i_Never : InsI K (He.ga K "Never")
  fd_own_calls : ClsF K mg Lw_k21.fd_own_calls "own_calls"
  iso : IsiO K mg ocs oxs oanc
  pr_Schedule_text : (propB "Schedule" "text" "Schedule") K = true
  pr_Now_text : (propB "Now" "text" "Now") K = true
  pr_Late_text : (propB "Late" "text" "Late") K = true
  pr_Rounds_text : (propB "Rounds" "text" "Rounds") K = true
  pr_Never_text : (propB "Never" "text" "Never") K = true
  sm_Schedule___eq__ : (samB "Schedule" "Schedule" "__eq__") K = true
  eqc_Schedule : (eqCB "Schedule") K = true
  sm_Now___eq__ : (samB "Now" "Schedule" "__eq__") K = true
  eqc_Now : (eqCB "Now") K = true
  sm_Late___eq__ : (samB "Late" "Schedule" "__eq__") K = true
  eqc_Late : (eqCB "Late") K = true
  sm_Rounds___eq__ : (samB "Rounds" "Schedule" "__eq__") K = true
  eqc_Rounds : (eqCB "Rounds") K = true
  sm_Never___eq__ : (samB "Never" "Schedule" "__eq__") K = true
  eqc_Never : (eqCB "Never") K = true
  sm_Schedule_can_leave : (samB "Schedule" "Schedule" "can_leave") K = true
  sm_Now_can_leave : (samB "Now" "Now" "can_leave") K = true
  sm_Late_can_leave : (samB "Late" "Late" "can_leave") K = true
  sm_Rounds_can_leave : (samB "Rounds" "Rounds" "can_leave") K = true
  sm_Never_can_leave : (samB "Never" "Schedule" "can_leave") K = true
  pr_Late_span : (propB "Late" "span" "Late") K = true
  pr_Rounds_span : (propB "Rounds" "span" "Rounds") K = true
  sm_Schedule_reported : (samB "Schedule" "Schedule" "reported") K = true
  sm_Now_reported : (samB "Now" "Now" "reported") K = true
  sm_Late_reported : (samB "Late" "Late" "reported") K = true
  sm_Rounds_reported : (samB "Rounds" "Rounds" "reported") K = true
  sm_Never_reported : (samB "Never" "Schedule" "reported") K = true
  sm_Schedule___repr__ : (samB "Schedule" "Schedule" "__repr__") K = true
  sm_Now___repr__ : (samB "Now" "Schedule" "__repr__") K = true
  sm_Late___repr__ : (samB "Late" "Schedule" "__repr__") K = true
  sm_Rounds___repr__ : (samB "Rounds" "Schedule" "__repr__") K = true
  sm_Never___repr__ : (samB "Never" "Schedule" "__repr__") K = true
  st_Schedule_read : (statB "Schedule" "read") K = true
  mk_Rounds : (fun K => (He.Fa.mkr "Rounds").ok K) K = true
  mk_Late : (fun K => (He.Fa.mkr "Late").ok K) K = true
  plb_Never : (plB "Never") K = true
  plb_Now : (plB "Now") K = true
  plb_Schedule : (plB "Schedule") K = true
  eqp : (eqPB okp) K = true
  pl_Never : ∃ C, mg "Never" = some (.ref C) ∧ MkPl K C
  pl_Now : ∃ C, mg "Now" = some (.ref C) ∧ MkPl K C
  pl_Schedule : ∃ C, mg "Schedule" = some (.ref C) ∧ MkPl K C
  cat : Catch K mg [.ref (He.ga K "CallError"), .ref (He.ga K "Missing"), .ref (He.ga K "NothingLeft")] (fc "code")
  ef : ErrFs K mg fc
structure Errs (P : Program) (w : World) (K : PySem.W.Frag) (mg : Str → Option Value) (base : Heap) : Prop where
  mk_InvalidNumber : MkErr P w K mg base "InvalidNumber" "given" "InvalidNumber" 1
  mk_InvalidSchedule : MkErr P w K mg base "InvalidSchedule" "given" "InvalidSchedule" 1
section
variable {P : Program} {w : World} {K : PySem.W.Frag} {mg : Str → Option Value} {base : Heap}
omit P w base in
theorem okp_named (G : GS K mg) : ∀ q ∈ okp, mg q.1 = some (.ref (He.ga K q.1)) ∧ mg q.2 = some (.ref (He.ga K q.2)) := by
  have all : ∀ c ∈ (["Schedule", "Now", "Late", "Rounds", "Never"] : List Str), mg c = some (.ref (He.ga K c)) := by
    intro c hc
    simp only [List.mem_cons, List.not_mem_nil, or_false] at hc
    rcases hc with rfl | rfl | rfl | rfl | rfl
    · exact G.m_Schedule
    · exact G.m_Now
    · exact G.m_Late
    · exact G.m_Rounds
    · exact G.m_Never
  have sub : ∀ q ∈ okp, q.1 ∈ (["Schedule", "Now", "Late", "Rounds", "Never"] : List Str) ∧ q.2 ∈ (["Schedule", "Now", "Late", "Rounds", "Never"] : List Str) := by decide +kernel
  exact fun q hq => ⟨all _ (sub q hq).1, all _ (sub q hq).2⟩
theorem sc__law_source : FnScope N__law_source P__law_source (defScope s__law_source) := ⟨rfl, rfl, rfl, by decide +kernel, rfl, by decide +kernel, by decide +kernel⟩
theorem ok__law_source (G : GS K mg) (GE : Errs P w K mg base)  : Callee P w K mg base "_law_source" P__law_source [] 1 m__law_source := by
  obtain ⟨f, fd, hm, F⟩ := G.d__law_source
  have E := G.ef
  have nd := (sc__law_source).nd
  have hC : Callee P w K mg base "_law_source" P__law_source [] (0 + 1) (cleanD (defD N__law_source.length b__law_source)) := by
    refine callee hm F sc__law_source (fun _ _ _ _ _ _ us hl => match us, hl with | [_], _ => rfl) (fun q hq => absurd hq List.not_mem_nil) fun cdv A outer s H E B hr => ?_
    have tk := takes_cx (P := P) (w := w) (K := K) (mg := mg) (base := base) (N := N__law_source) (qual := "_law_source") (scope := defScope s__law_source) (f := f) (cdv := cdv) (A := A) (outer := outer) (s := s) (H := H) (E := E)
    unfold b__law_source
    exact (dss_one (ds_ret (de_lst (da_cons (list_ G.f_list (da_cons (de_slice (vv 0) do_none (do_some de_int)) da_nil)) (da_cons de_int (da_cons de_int (da_cons de_int (da_cons de_int da_nil))))))))
  exact hC.adopt
theorem sc__law_draw : FnScope N__law_draw P__law_draw (defScope s__law_draw) := ⟨rfl, rfl, rfl, by decide +kernel, rfl, by decide +kernel, by decide +kernel⟩
theorem ok__law_draw (G : GS K mg) (GE : Errs P w K mg base)  : Callee P w K mg base "_law_draw" P__law_draw [] 1 m__law_draw := by
  obtain ⟨f, fd, hm, F⟩ := G.d__law_draw
  have E := G.ef
  have nd := (sc__law_draw).nd
  have hC : Callee P w K mg base "_law_draw" P__law_draw [] (0 + 1) (cleanD (defD N__law_draw.length b__law_draw)) := by
    refine callee hm F sc__law_draw (fun _ _ _ _ _ _ us hl => match us, hl with | [_, _], _ => rfl) (fun q hq => absurd hq List.not_mem_nil) fun cdv A outer s H E B hr => ?_
    have tk := takes_cx (P := P) (w := w) (K := K) (mg := mg) (base := base) (N := N__law_draw) (qual := "_law_draw") (scope := defScope s__law_draw) (f := f) (cdv := cdv) (A := A) (outer := outer) (s := s) (H := H) (E := E)
    unfold b__law_draw bDraw
    exact (dss_cons (ds_if (dw_t (dw_and (dt_cmp (op_eqD (unitsOk hr)) opd_eq (ix_ (vv 0) de_int) de_int (nomark _)) (dw_and1 (dt_cmp op_lt opd_cmp (ix_ (vv 0) de_int) (len_ G.f_len (da_cons (ix_ (vv 0) de_int) da_nil)) (nomark _))))) (dss_cons (ds_set nd rfl (by first | exact .inl rfl | exact .inr rfl) (ix_ (ix_ (vv 0) de_int) (ix_ (vv 0) de_int)))
  (dss_cons (ds_setS (de_op op_addA opd_add (ix_ (vv 0) de_int) de_int) (vv 0) de_int)
  (dss_one (ds_if (dt_cmp op_ge opd_cmp (vv 2) (de_op op_pow opd_pow de_int de_int) (nomark _)) (dss_one (ds_setS (vv 2) (vv 0) de_int)) (dss_one (ds_setS (de_op op_mod opd_mod (int_ G.f_int (da_cons (de_op op_addA opd_add (de_op op_addA opd_add (de_op op_mulA opd_mul (ix_ (vv 0) de_int) de_int) (de_op op_mulA opd_mul (de_op op_mod opd_mod (int_ G.f_int (da_cons (vv 2) da_nil)) de_int) de_int)) de_int) da_nil)) de_int) (vv 0) de_int)))))) dss_nil)
  (dss_cons (ds_if (dt_cmp op_gt opd_cmp (ix_ (vv 0) de_int) de_int (nomark _)) (dss_cons (ds_set nd rfl (by first | exact .inl rfl | exact .inr rfl) (de_op op_mod opd_mod (int_ G.f_int (da_cons (ix_ (vv 0) de_int) da_nil)) (vv 1)))
  (dss_cons (ds_setS (de_op op_fdiv opd_div (ix_ (vv 0) de_int) (vv 1)) (vv 0) de_int)
  (dss_one (ds_ret (vv 3))))) dss_nil)
  (dss_cons (ds_setS (de_op op_addA opd_add (ix_ (vv 0) de_int) de_int) (vv 0) de_int)
  (dss_cons (ds_set nd rfl (by first | exact .inl rfl | exact .inr rfl) (ix_ (vv 0) de_int))
  (dss_cons (ds_setS (de_op op_mod opd_mod (int_ G.f_int (da_cons (de_op op_addA opd_add (de_op op_addA opd_add (de_op op_addA opd_add (de_op op_mulA opd_mul (vv 4) (vv 4)) (de_op op_mulA opd_mul (vv 4) de_int)) (de_op op_mulA opd_mul (ix_ (vv 0) de_int) de_int)) de_int) da_nil)) de_int) (vv 0) de_int)
  (dss_one (ds_ret (de_op op_mod opd_mod (int_ G.f_int (da_cons (de_op op_addA opd_add (de_op op_fdiv opd_div (ix_ (vv 0) de_int) de_int) (de_op op_mulA opd_mul (de_op op_mod opd_mod (int_ G.f_int (da_cons (ix_ (vv 0) de_int) da_nil)) de_int) de_int)) da_nil)) (vv 1)))))))))
  exact hC
theorem sc__law_of : FnScope N__law_of P__law_of (defScope s__law_of) := ⟨rfl, rfl, rfl, by decide +kernel, rfl, by decide +kernel, by decide +kernel⟩
theorem ok__law_of (G : GS K mg) (GE : Errs P w K mg base) (C__law_draw : Callee P w K mg base "_law_draw" P__law_draw [] 1 mDraw) : Callee P w K mg base "_law_of" P__law_of [] 2 m__law_of := by
  obtain ⟨f, fd, hm, F⟩ := G.d__law_of
  have E := G.ef
  have nd := (sc__law_of).nd
  have hC : Callee P w K mg base "_law_of" P__law_of [] (1 + 1) (cleanD (defD N__law_of.length b__law_of)) := by
    refine callee hm F sc__law_of (fun _ _ _ _ _ _ us hl => match us, hl with | [_, _], _ => rfl) (fun q hq => absurd hq List.not_mem_nil) fun cdv A outer s H E B hr => ?_
    have tk := takes_cx (P := P) (w := w) (K := K) (mg := mg) (base := base) (N := N__law_of) (qual := "_law_of") (scope := defScope s__law_of) (f := f) (cdv := cdv) (A := A) (outer := outer) (s := s) (H := H) (E := E)
    unfold b__law_of bOf
    exact (dss_one (ds_ret (ix_ (vv 1) (de_callN C__law_draw (hr.mono (by decide)) tk (by rfl) (da_cons (vv 0) (da_cons (len_ G.f_len (da_cons (vv 1) da_nil)) da_nil))))))
  exact hC
theorem sc_is_integer : FnScope N_is_integer P_is_integer (defScope s_is_integer) := ⟨rfl, rfl, rfl, by decide +kernel, rfl, by decide +kernel, by decide +kernel⟩
theorem ok_is_integer (G : GS K mg) (GE : Errs P w K mg base)  : Callee P w K mg base "is_integer" P_is_integer [] 1 m_is_integer := by
  obtain ⟨f, fd, hm, F⟩ := G.d_is_integer
  have E := G.ef
  have nd := (sc_is_integer).nd
  have hC : Callee P w K mg base "is_integer" P_is_integer [] (0 + 1) (cleanD (defD N_is_integer.length b_is_integer)) := by
    refine callee hm F sc_is_integer (fun _ _ _ _ _ _ us hl => match us, hl with | [_], _ => rfl) (fun q hq => absurd hq List.not_mem_nil) fun cdv A outer s H E B hr => ?_
    have tk := takes_cx (P := P) (w := w) (K := K) (mg := mg) (base := base) (N := N_is_integer) (qual := "is_integer") (scope := defScope s_is_integer) (f := f) (cdv := cdv) (A := A) (outer := outer) (s := s) (H := H) (E := E)
    unfold b_is_integer
    exact (dss_one (ds_ret (de_and (isi_ G.f_isinstance (da_cons (vv 0) (da_cons (ty_int G.f_int) da_nil))) (de_one (de_not (isi_ G.f_isinstance (da_cons (vv 0) (da_cons (ty_bool G.f_bool) da_nil))))))))
  exact hC
theorem sc_is_within : FnScope N_is_within P_is_within (defScope s_is_within) := ⟨rfl, rfl, rfl, by decide +kernel, rfl, by decide +kernel, by decide +kernel⟩
theorem ok_is_within (G : GS K mg) (GE : Errs P w K mg base) (C_is_integer : Callee P w K mg base "is_integer" P_is_integer [] 1 m_is_integer) : Callee P w K mg base "is_within" P_is_within [] 2 m_is_within := by
  obtain ⟨f, fd, hm, F⟩ := G.d_is_within
  have E := G.ef
  have nd := (sc_is_within).nd
  have hC : Callee P w K mg base "is_within" P_is_within [] (1 + 1) (cleanD (defD N_is_within.length b_is_within)) := by
    refine callee hm F sc_is_within (fun _ _ _ _ _ _ us hl => match us, hl with | [_, _, _], _ => rfl) (fun q hq => absurd hq List.not_mem_nil) fun cdv A outer s H E B hr => ?_
    have tk := takes_cx (P := P) (w := w) (K := K) (mg := mg) (base := base) (N := N_is_within) (qual := "is_within") (scope := defScope s_is_within) (f := f) (cdv := cdv) (A := A) (outer := outer) (s := s) (H := H) (E := E)
    unfold b_is_within
    exact (dss_one (ds_ret (de_and (de_callN C_is_integer (hr.mono (by decide)) tk (by rfl) (da_cons (vv 0) da_nil)) (de_one (de_chain op_le opd_cmp op_le opd_cmp (vv 1) (vv 0) (vv 2) (by rfl))))))
  exact hC
theorem sc_Late___init__ : FnScope N_Late___init__ P_Late___init__ (defScope s_Late___init__) := ⟨rfl, rfl, rfl, by decide +kernel, rfl, by decide +kernel, by decide +kernel⟩
theorem ok_Late___init__ (G : GS K mg) (GE : Errs P w K mg base) (C_is_within : Callee P w K mg base "is_within" P_is_within [] 2 m_is_within) : DefK P w K mg base (methAt "Late" "__init__" K) P_Late___init__ [(1, ["calls"])] 3 m_Late___init__ := by
  obtain ⟨fd, F⟩ := G.d_Late___init__
  generalize methAt "Late" "__init__" K = fA at F ⊢
  have E := G.ef
  have nd := (sc_Late___init__).nd
  have hF : FnOk P w K mg base (L2.CX P w) (2 + 1) fA fd P_Late___init__ (spD ⟨K, mg⟩ P_Late___init__.length (cleanD (defD N_Late___init__.length b_Late___init__))) := by
    refine def_ok F sc_Late___init__ fun cdv A outer s H E0 B hr => ?_
    have tk := takes_cx (P := P) (w := w) (K := K) (mg := mg) (base := base) (N := N_Late___init__) (qual := "Late.__init__") (scope := defScope s_Late___init__) (f := fA) (cdv := cdv) (A := A) (outer := outer) (s := s) (H := H) (E := E0)
    unfold b_Late___init__
    exact (dss_cons (ds_if (dt_not (dt_val (de_callN C_is_within (hr.mono (by decide)) tk (by rfl) (da_cons (vv 1) (da_cons de_int (da_cons de_int da_nil)))) (by intro _; rfl))) (dss_one (ds_raise GE.mk_InvalidNumber rfl tk (hr.mono (by decide)) rfl (da_cons (vv 1) da_nil))) dss_nil)
  (dss_one (ds_fld (vv 1) (vv 0) G.fd_own_calls)))
  exact ⟨⟨fd, F.kp, F.bindsN (fun _ _ _ _ _ _ us hl => match us, hl with | [_, _], _ => rfl), (by
    intro q hq
    simp only [List.mem_cons, List.not_mem_nil, or_false] at hq
    subst hq
    · exact kbn_of F fun _ _ _ _ _ _ us ws h1 h2 => match us, ws, h1, h2 with | [_], [_], _, _ => rfl
    ), hF⟩⟩
theorem sc_Rounds___init__ : FnScope N_Rounds___init__ P_Rounds___init__ (defScope s_Rounds___init__) := ⟨rfl, rfl, rfl, by decide +kernel, rfl, by decide +kernel, by decide +kernel⟩
theorem ok_Rounds___init__ (G : GS K mg) (GE : Errs P w K mg base) (C_is_within : Callee P w K mg base "is_within" P_is_within [] 2 m_is_within) : DefK P w K mg base (methAt "Rounds" "__init__" K) P_Rounds___init__ [(1, ["calls"])] 3 m_Rounds___init__ := by
  obtain ⟨fd, F⟩ := G.d_Rounds___init__
  generalize methAt "Rounds" "__init__" K = fA at F ⊢
  have E := G.ef
  have nd := (sc_Rounds___init__).nd
  have hF : FnOk P w K mg base (L2.CX P w) (2 + 1) fA fd P_Rounds___init__ (spD ⟨K, mg⟩ P_Rounds___init__.length (cleanD (defD N_Rounds___init__.length b_Rounds___init__))) := by
    refine def_ok F sc_Rounds___init__ fun cdv A outer s H E0 B hr => ?_
    have tk := takes_cx (P := P) (w := w) (K := K) (mg := mg) (base := base) (N := N_Rounds___init__) (qual := "Rounds.__init__") (scope := defScope s_Rounds___init__) (f := fA) (cdv := cdv) (A := A) (outer := outer) (s := s) (H := H) (E := E0)
    unfold b_Rounds___init__
    exact (dss_cons (ds_if (dt_not (dt_val (de_callN C_is_within (hr.mono (by decide)) tk (by rfl) (da_cons (vv 1) (da_cons de_int (da_cons de_int da_nil)))) (by intro _; rfl))) (dss_one (ds_raise GE.mk_InvalidNumber rfl tk (hr.mono (by decide)) rfl (da_cons (vv 1) da_nil))) dss_nil)
  (dss_one (ds_fld (vv 1) (vv 0) G.fd_own_calls)))
  exact ⟨⟨fd, F.kp, F.bindsN (fun _ _ _ _ _ _ us hl => match us, hl with | [_, _], _ => rfl), (by
    intro q hq
    simp only [List.mem_cons, List.not_mem_nil, or_false] at hq
    subst hq
    · exact kbn_of F fun _ _ _ _ _ _ us ws h1 h2 => match us, ws, h1, h2 with | [_], [_], _, _ => rfl
    ), hF⟩⟩
theorem sc__law_like : FnScope N__law_like P__law_like (defScope s__law_like) := ⟨rfl, rfl, rfl, by decide +kernel, rfl, by decide +kernel, by decide +kernel⟩
theorem ok__law_like (G : GS K mg) (GE : Errs P w K mg base)  : ∀ n, Callee P w K mg base "_law_like" P__law_like [] (n + 0) (m__law_like n)
  | 0 => by
    obtain ⟨f, fd, hm, F⟩ := G.d__law_like
    exact callee0 hm F (fun _ _ _ _ _ _ us hl => match us, hl with | [_, _], _ => rfl) (fun q hq => absurd hq List.not_mem_nil)
  | n + 1 => by
    have ih := ok__law_like G GE  n
    obtain ⟨f, fd, hm, F⟩ := G.d__law_like
    have nd := (sc__law_like).nd
    refine callee (N := N__law_like) (m := bLike (mLike n)) hm F sc__law_like (fun _ _ _ _ _ _ us hl => match us, hl with | [_, _], _ => rfl) (fun q hq => absurd hq List.not_mem_nil) fun cdv A outer s H E B hr => ?_
    have tk := takes_cx (P := P) (w := w) (K := K) (mg := mg) (base := base) (N := N__law_like) (qual := "_law_like") (scope := defScope s__law_like) (f := f) (cdv := cdv) (A := A) (outer := outer) (s := s) (H := H) (E := E)
    unfold bLike
    exact (dss_cons (ds_if (dt_val (isi_ G.f_isinstance (da_cons (vv 1) (da_cons (de_tup (da_cons (ty_list G.f_list) (da_cons (ty_tuple G.f_tuple) da_nil))) da_nil))) (by intro _; rfl)) (dss_cons (ds_if (dt_cmp (op_neD (unitsOk hr)) opd_ne (isi_ G.f_isinstance (da_cons (vv 0) (da_cons (ty_list G.f_list) da_nil))) (isi_ G.f_isinstance (da_cons (vv 1) (da_cons (ty_list G.f_list) da_nil))) (nomark _)) (dss_one (ds_ret de_bl)) dss_nil)
  (dss_cons (ds_if (dt_cmp (op_neD (unitsOk hr)) opd_ne (isi_ G.f_isinstance (da_cons (vv 0) (da_cons (ty_tuple G.f_tuple) da_nil))) (isi_ G.f_isinstance (da_cons (vv 1) (da_cons (ty_tuple G.f_tuple) da_nil))) (nomark _)) (dss_one (ds_ret de_bl)) dss_nil)
  (dss_one (ds_ret (de_and (de_cmp (op_eqD (unitsOk hr)) opd_eq (len_ G.f_len (da_cons (vv 0) da_nil)) (len_ G.f_len (da_cons (vv 1) da_nil)) (nomark _)) (de_one (all_ G.f_all (da_cons (de_lc (own := [("_law_one", 2), ("_law_other", 3)]) rfl nd (di_zip (by rfl) G.f_zip (da_cons (vv 0) (da_cons (vv 1) da_nil))) (blkOk_by (by kernel_rfl)) (gd_tup (gsd_cons gd_name (gsd_cons gd_name gsd_nil))) (by decide) (fun _ _ _ _ _ => (pg_tup rfl (pgs_cons (pg_name (i := 2) nd rfl (by first | exact .inl rfl | exact .inr rfl) (by first | exact .inl rfl | exact .inr rfl)) (pgs_cons (pg_name (i := 3) nd rfl (by first | exact .inl rfl | exact .inr rfl) (by first | exact .inl rfl | exact .inr rfl)) pgs_nil)))) (fun _ _ _ _ _ _ => dts_nil) (fun _ _ _ _ _ _ => (de_callN ih (hr.mono (by omega)) takes0 (by rfl) (da_cons (vv 2) (da_cons (vv 3) da_nil))))) da_nil)))))))) dss_nil)
  (dss_cons (ds_if (dw_t (dw_or (dt_cmp op_isN opd_is (vv 1) de_non (nomark _)) (dw_or1 (dt_cmp op_isN opd_is (vv 0) de_non (nomark _))))) (dss_one (ds_ret (de_and (de_cmp op_isN opd_is (vv 1) de_non (nomark _)) (de_one (de_cmp op_isN opd_is (vv 0) de_non (nomark _)))))) dss_nil)
  (dss_cons (ds_if (dw_t (dw_or (dt_cmp (op_neD (unitsOk hr)) opd_ne (isi_ G.f_isinstance (da_cons (vv 0) (da_cons (ty_bool G.f_bool) da_nil))) (isi_ G.f_isinstance (da_cons (vv 1) (da_cons (ty_bool G.f_bool) da_nil))) (nomark _)) (dw_or1 (dt_cmp (op_neD (unitsOk hr)) opd_ne (isi_ G.f_isinstance (da_cons (vv 0) (da_cons (ty_int G.f_int) da_nil))) (isi_ G.f_isinstance (da_cons (vv 1) (da_cons (ty_int G.f_int) da_nil))) (nomark _))))) (dss_one (ds_ret de_bl)) dss_nil)
  (dss_one (ds_ret (de_and (de_cmp (op_eqD (unitsOk hr)) opd_eq (isi_ G.f_isinstance (da_cons (vv 0) (da_cons (ty_str G.f_str) da_nil))) (isi_ G.f_isinstance (da_cons (vv 1) (da_cons (ty_str G.f_str) da_nil))) (nomark _)) (de_one (de_cmp (op_eqD (unitsOk hr)) opd_eq (vv 0) (vv 1) (nomark _)))))))))
theorem sc_Schedule_text : FnScope N_Schedule_text P_Schedule_text (defScope s_Schedule_text) := ⟨rfl, rfl, rfl, by decide +kernel, rfl, by decide +kernel, by decide +kernel⟩
theorem ok_Schedule_text (G : GS K mg) (GE : Errs P w K mg base)  : DefOk P w K mg base (propAt "Schedule" "text" K) P_Schedule_text 1 m_Schedule_text := by
  obtain ⟨fd, F⟩ := G.d_Schedule_text
  generalize propAt "Schedule" "text" K = fA at F ⊢
  have E := G.ef
  have nd := (sc_Schedule_text).nd
  have hF : FnOk P w K mg base (L2.CX P w) (0 + 1) fA fd P_Schedule_text (spD ⟨K, mg⟩ P_Schedule_text.length (cleanD (defD N_Schedule_text.length b_Schedule_text))) := by
    refine def_ok F sc_Schedule_text fun cdv A outer s H E0 B hr => ?_
    have tk := takes_cx (P := P) (w := w) (K := K) (mg := mg) (base := base) (N := N_Schedule_text) (qual := "Schedule.text") (scope := defScope s_Schedule_text) (f := fA) (cdv := cdv) (A := A) (outer := outer) (s := s) (H := H) (E := E0)
    unfold b_Schedule_text
    exact (dss_one (ds_ret de_str))
  exact ⟨⟨fd, F.kp, F.bindsN (fun _ _ _ _ _ _ us hl => match us, hl with | [_], _ => rfl), hF⟩⟩
theorem sc_Now_text : FnScope N_Now_text P_Now_text (defScope s_Now_text) := ⟨rfl, rfl, rfl, by decide +kernel, rfl, by decide +kernel, by decide +kernel⟩
theorem ok_Now_text (G : GS K mg) (GE : Errs P w K mg base)  : DefOk P w K mg base (propAt "Now" "text" K) P_Now_text 1 m_Now_text := by
  obtain ⟨fd, F⟩ := G.d_Now_text
  generalize propAt "Now" "text" K = fA at F ⊢
  have E := G.ef
  have nd := (sc_Now_text).nd
  have hF : FnOk P w K mg base (L2.CX P w) (0 + 1) fA fd P_Now_text (spD ⟨K, mg⟩ P_Now_text.length (cleanD (defD N_Now_text.length b_Now_text))) := by
    refine def_ok F sc_Now_text fun cdv A outer s H E0 B hr => ?_
    have tk := takes_cx (P := P) (w := w) (K := K) (mg := mg) (base := base) (N := N_Now_text) (qual := "Now.text") (scope := defScope s_Now_text) (f := fA) (cdv := cdv) (A := A) (outer := outer) (s := s) (H := H) (E := E0)
    unfold b_Now_text
    exact (dss_one (ds_ret de_str))
  exact ⟨⟨fd, F.kp, F.bindsN (fun _ _ _ _ _ _ us hl => match us, hl with | [_], _ => rfl), hF⟩⟩
theorem sc_Late_text : FnScope N_Late_text P_Late_text (defScope s_Late_text) := ⟨rfl, rfl, rfl, by decide +kernel, rfl, by decide +kernel, by decide +kernel⟩
theorem ok_Late_text (G : GS K mg) (GE : Errs P w K mg base)  : DefOk P w K mg base (propAt "Late" "text" K) P_Late_text 1 m_Late_text := by
  obtain ⟨fd, F⟩ := G.d_Late_text
  generalize propAt "Late" "text" K = fA at F ⊢
  have E := G.ef
  have nd := (sc_Late_text).nd
  have hF : FnOk P w K mg base (L2.CX P w) (0 + 1) fA fd P_Late_text (spD ⟨K, mg⟩ P_Late_text.length (cleanD (defD N_Late_text.length b_Late_text))) := by
    refine def_ok F sc_Late_text fun cdv A outer s H E0 B hr => ?_
    have tk := takes_cx (P := P) (w := w) (K := K) (mg := mg) (base := base) (N := N_Late_text) (qual := "Late.text") (scope := defScope s_Late_text) (f := fA) (cdv := cdv) (A := A) (outer := outer) (s := s) (H := H) (E := E0)
    unfold b_Late_text
    exact (dss_one (ds_ret (de_joined (DJ.cons de_str (DJ.cons (de_fmt (de_fld (vv 0) G.fd_own_calls)) DJ.nil)))))
  exact ⟨⟨fd, F.kp, F.bindsN (fun _ _ _ _ _ _ us hl => match us, hl with | [_], _ => rfl), hF⟩⟩
theorem sc_Rounds_text : FnScope N_Rounds_text P_Rounds_text (defScope s_Rounds_text) := ⟨rfl, rfl, rfl, by decide +kernel, rfl, by decide +kernel, by decide +kernel⟩
theorem ok_Rounds_text (G : GS K mg) (GE : Errs P w K mg base)  : DefOk P w K mg base (propAt "Rounds" "text" K) P_Rounds_text 1 m_Rounds_text := by
  obtain ⟨fd, F⟩ := G.d_Rounds_text
  generalize propAt "Rounds" "text" K = fA at F ⊢
  have E := G.ef
  have nd := (sc_Rounds_text).nd
  have hF : FnOk P w K mg base (L2.CX P w) (0 + 1) fA fd P_Rounds_text (spD ⟨K, mg⟩ P_Rounds_text.length (cleanD (defD N_Rounds_text.length b_Rounds_text))) := by
    refine def_ok F sc_Rounds_text fun cdv A outer s H E0 B hr => ?_
    have tk := takes_cx (P := P) (w := w) (K := K) (mg := mg) (base := base) (N := N_Rounds_text) (qual := "Rounds.text") (scope := defScope s_Rounds_text) (f := fA) (cdv := cdv) (A := A) (outer := outer) (s := s) (H := H) (E := E0)
    unfold b_Rounds_text
    exact (dss_one (ds_ret (de_joined (DJ.cons de_str (DJ.cons (de_fmt (de_fld (vv 0) G.fd_own_calls)) DJ.nil)))))
  exact ⟨⟨fd, F.kp, F.bindsN (fun _ _ _ _ _ _ us hl => match us, hl with | [_], _ => rfl), hF⟩⟩
theorem sc_Never_text : FnScope N_Never_text P_Never_text (defScope s_Never_text) := ⟨rfl, rfl, rfl, by decide +kernel, rfl, by decide +kernel, by decide +kernel⟩
theorem ok_Never_text (G : GS K mg) (GE : Errs P w K mg base)  : DefOk P w K mg base (propAt "Never" "text" K) P_Never_text 1 m_Never_text := by
  obtain ⟨fd, F⟩ := G.d_Never_text
  generalize propAt "Never" "text" K = fA at F ⊢
  have E := G.ef
  have nd := (sc_Never_text).nd
  have hF : FnOk P w K mg base (L2.CX P w) (0 + 1) fA fd P_Never_text (spD ⟨K, mg⟩ P_Never_text.length (cleanD (defD N_Never_text.length b_Never_text))) := by
    refine def_ok F sc_Never_text fun cdv A outer s H E0 B hr => ?_
    have tk := takes_cx (P := P) (w := w) (K := K) (mg := mg) (base := base) (N := N_Never_text) (qual := "Never.text") (scope := defScope s_Never_text) (f := fA) (cdv := cdv) (A := A) (outer := outer) (s := s) (H := H) (E := E0)
    unfold b_Never_text
    exact (dss_one (ds_ret de_str))
  exact ⟨⟨fd, F.kp, F.bindsN (fun _ _ _ _ _ _ us hl => match us, hl with | [_], _ => rfl), hF⟩⟩
theorem sc_Schedule___repr__ : FnScope N_Schedule___repr__ P_Schedule___repr__ (defScope s_Schedule___repr__) := ⟨rfl, rfl, rfl, by decide +kernel, rfl, by decide +kernel, by decide +kernel⟩
theorem ok_Schedule___repr__ (G : GS K mg) (GE : Errs P w K mg base) (T_text : PropT P w K mg base "text" 1 tb_text) : DefOk P w K mg base (methAt "Schedule" "__repr__" K) P_Schedule___repr__ 3 m_Schedule___repr__ := by
  obtain ⟨fd, F⟩ := G.d_Schedule___repr__
  generalize methAt "Schedule" "__repr__" K = fA at F ⊢
  have E := G.ef
  have nd := (sc_Schedule___repr__).nd
  have hF : FnOk P w K mg base (L2.CX P w) (2 + 1) fA fd P_Schedule___repr__ (spD ⟨K, mg⟩ P_Schedule___repr__.length (cleanD (defD N_Schedule___repr__.length b_Schedule___repr__))) := by
    refine def_ok F sc_Schedule___repr__ fun cdv A outer s H E0 B hr => ?_
    have tk := takes_cx (P := P) (w := w) (K := K) (mg := mg) (base := base) (N := N_Schedule___repr__) (qual := "Schedule.__repr__") (scope := defScope s_Schedule___repr__) (f := fA) (cdv := cdv) (A := A) (outer := outer) (s := s) (H := H) (E := E0)
    unfold b_Schedule___repr__
    exact (dss_one (ds_ret (de_joined (DJ.cons de_str (DJ.cons (de_fmt (de_propT T_text (hr.mono (by decide)) (vv 0))) (DJ.cons de_str DJ.nil))))))
  exact ⟨⟨fd, F.kp, F.bindsN (fun _ _ _ _ _ _ us hl => match us, hl with | [_], _ => rfl), hF⟩⟩
theorem sc_Schedule_reported : FnScope N_Schedule_reported P_Schedule_reported (defScope s_Schedule_reported) := ⟨rfl, rfl, rfl, by decide +kernel, rfl, by decide +kernel, by decide +kernel⟩
theorem ok_Schedule_reported (G : GS K mg) (GE : Errs P w K mg base)  : DefOk P w K mg base (methAt "Schedule" "reported" K) P_Schedule_reported 1 m_Schedule_reported := by
  obtain ⟨fd, F⟩ := G.d_Schedule_reported
  generalize methAt "Schedule" "reported" K = fA at F ⊢
  have E := G.ef
  have nd := (sc_Schedule_reported).nd
  have hF : FnOk P w K mg base (L2.CX P w) (0 + 1) fA fd P_Schedule_reported (spD ⟨K, mg⟩ P_Schedule_reported.length (cleanD (defD N_Schedule_reported.length b_Schedule_reported))) := by
    refine def_ok F sc_Schedule_reported fun cdv A outer s H E0 B hr => ?_
    have tk := takes_cx (P := P) (w := w) (K := K) (mg := mg) (base := base) (N := N_Schedule_reported) (qual := "Schedule.reported") (scope := defScope s_Schedule_reported) (f := fA) (cdv := cdv) (A := A) (outer := outer) (s := s) (H := H) (E := E0)
    unfold b_Schedule_reported
    exact (dss_one (ds_ret de_int))
  exact ⟨⟨fd, F.kp, F.bindsN (fun _ _ _ _ _ _ us hl => match us, hl with | [_, _], _ => rfl), hF⟩⟩
theorem sc_Now_reported : FnScope N_Now_reported P_Now_reported (defScope s_Now_reported) := ⟨rfl, rfl, rfl, by decide +kernel, rfl, by decide +kernel, by decide +kernel⟩
theorem ok_Now_reported (G : GS K mg) (GE : Errs P w K mg base)  : DefOk P w K mg base (methAt "Now" "reported" K) P_Now_reported 1 m_Now_reported := by
  obtain ⟨fd, F⟩ := G.d_Now_reported
  generalize methAt "Now" "reported" K = fA at F ⊢
  have E := G.ef
  have nd := (sc_Now_reported).nd
  have hF : FnOk P w K mg base (L2.CX P w) (0 + 1) fA fd P_Now_reported (spD ⟨K, mg⟩ P_Now_reported.length (cleanD (defD N_Now_reported.length b_Now_reported))) := by
    refine def_ok F sc_Now_reported fun cdv A outer s H E0 B hr => ?_
    have tk := takes_cx (P := P) (w := w) (K := K) (mg := mg) (base := base) (N := N_Now_reported) (qual := "Now.reported") (scope := defScope s_Now_reported) (f := fA) (cdv := cdv) (A := A) (outer := outer) (s := s) (H := H) (E := E0)
    unfold b_Now_reported
    exact (dss_one (ds_ret (vv 1)))
  exact ⟨⟨fd, F.kp, F.bindsN (fun _ _ _ _ _ _ us hl => match us, hl with | [_, _], _ => rfl), hF⟩⟩
theorem sc_Late_reported : FnScope N_Late_reported P_Late_reported (defScope s_Late_reported) := ⟨rfl, rfl, rfl, by decide +kernel, rfl, by decide +kernel, by decide +kernel⟩
theorem ok_Late_reported (G : GS K mg) (GE : Errs P w K mg base)  : DefOk P w K mg base (methAt "Late" "reported" K) P_Late_reported 1 m_Late_reported := by
  obtain ⟨fd, F⟩ := G.d_Late_reported
  generalize methAt "Late" "reported" K = fA at F ⊢
  have E := G.ef
  have nd := (sc_Late_reported).nd
  have hF : FnOk P w K mg base (L2.CX P w) (0 + 1) fA fd P_Late_reported (spD ⟨K, mg⟩ P_Late_reported.length (cleanD (defD N_Late_reported.length b_Late_reported))) := by
    refine def_ok F sc_Late_reported fun cdv A outer s H E0 B hr => ?_
    have tk := takes_cx (P := P) (w := w) (K := K) (mg := mg) (base := base) (N := N_Late_reported) (qual := "Late.reported") (scope := defScope s_Late_reported) (f := fA) (cdv := cdv) (A := A) (outer := outer) (s := s) (H := H) (E := E0)
    unfold b_Late_reported
    exact (dss_one (ds_ret (max2_ G.f_max (da_cons de_int (da_cons (de_op op_sub opd_sub (vv 1) (de_fld (vv 0) G.fd_own_calls)) da_nil)))))
  exact ⟨⟨fd, F.kp, F.bindsN (fun _ _ _ _ _ _ us hl => match us, hl with | [_, _], _ => rfl), hF⟩⟩
theorem sc_Rounds_reported : FnScope N_Rounds_reported P_Rounds_reported (defScope s_Rounds_reported) := ⟨rfl, rfl, rfl, by decide +kernel, rfl, by decide +kernel, by decide +kernel⟩
theorem ok_Rounds_reported (G : GS K mg) (GE : Errs P w K mg base)  : DefOk P w K mg base (methAt "Rounds" "reported" K) P_Rounds_reported 1 m_Rounds_reported := by
  obtain ⟨fd, F⟩ := G.d_Rounds_reported
  generalize methAt "Rounds" "reported" K = fA at F ⊢
  have E := G.ef
  have nd := (sc_Rounds_reported).nd
  have hF : FnOk P w K mg base (L2.CX P w) (0 + 1) fA fd P_Rounds_reported (spD ⟨K, mg⟩ P_Rounds_reported.length (cleanD (defD N_Rounds_reported.length b_Rounds_reported))) := by
    refine def_ok F sc_Rounds_reported fun cdv A outer s H E0 B hr => ?_
    have tk := takes_cx (P := P) (w := w) (K := K) (mg := mg) (base := base) (N := N_Rounds_reported) (qual := "Rounds.reported") (scope := defScope s_Rounds_reported) (f := fA) (cdv := cdv) (A := A) (outer := outer) (s := s) (H := H) (E := E0)
    unfold b_Rounds_reported
    exact (dss_one (ds_ret (de_if (dt_cmp (op_eqD (unitsOk hr)) opd_eq (vv 1) (de_fld (vv 0) G.fd_own_calls) (nomark _)) (vv 1) de_int)))
  exact ⟨⟨fd, F.kp, F.bindsN (fun _ _ _ _ _ _ us hl => match us, hl with | [_, _], _ => rfl), hF⟩⟩
theorem sc_Schedule_read : FnScope N_Schedule_read P_Schedule_read (defScope s_Schedule_read) := ⟨rfl, rfl, rfl, by decide +kernel, rfl, by decide +kernel, by decide +kernel⟩
theorem ok_Schedule_read (G : GS K mg) (GE : Errs P w K mg base) (M_Rounds : MkK P w K mg base "Rounds" P_Rounds___init__ [(1, ["calls"])] 3 m_Rounds___init__) (M_Late : MkK P w K mg base "Late" P_Late___init__ [(1, ["calls"])] 3 m_Late___init__) (T_text : PropT P w K mg base "text" 1 tb_text) : DefOk P w K mg base (statAt "Schedule" "read" K) P_Schedule_read 5 m_Schedule_read := by
  obtain ⟨fd, F⟩ := G.d_Schedule_read
  generalize statAt "Schedule" "read" K = fA at F ⊢
  have E := G.ef
  have nd := (sc_Schedule_read).nd
  have hF : FnOk P w K mg base (L2.CX P w) (4 + 1) fA fd P_Schedule_read (spD ⟨K, mg⟩ P_Schedule_read.length (cleanD (defD N_Schedule_read.length b_Schedule_read))) := by
    refine def_ok F sc_Schedule_read fun cdv A outer s H E0 B hr => ?_
    have tk := takes_cx (P := P) (w := w) (K := K) (mg := mg) (base := base) (N := N_Schedule_read) (qual := "Schedule.read") (scope := defScope s_Schedule_read) (f := fA) (cdv := cdv) (A := A) (outer := outer) (s := s) (H := H) (E := E0)
    unfold b_Schedule_read
    exact (dss_cons (ds_set nd rfl (by first | exact .inl rfl | exact .inr rfl) (de_lst (da_cons (de_makePl G.pl_Now rfl) (da_cons (de_makePl G.pl_Never rfl) (da_star (de_lc (own := [("calls", 3)]) rfl nd (di_seq (de_tup (da_cons de_int (da_cons de_int (da_cons de_int da_nil))))) (blkOk_by (by kernel_rfl)) gd_name (by decide) (fun _ _ _ _ _ => (pg_name (i := 3) nd rfl (by first | exact .inl rfl | exact .inr rfl) (by first | exact .inl rfl | exact .inr rfl))) (fun _ _ _ _ _ _ => dts_nil) (fun _ _ _ _ _ _ => (de_make M_Late.plain (hr.mono (by decide)) takes0 (by rfl) (da_cons (vv 3) da_nil)))) (da_star (de_lc (own := [("calls", 3)]) rfl nd (di_seq (de_tup (da_cons de_int (da_cons de_int da_nil)))) (blkOk_by (by kernel_rfl)) gd_name (by decide) (fun _ _ _ _ _ => (pg_name (i := 3) nd rfl (by first | exact .inl rfl | exact .inr rfl) (by first | exact .inl rfl | exact .inr rfl))) (fun _ _ _ _ _ _ => dts_nil) (fun _ _ _ _ _ _ => (de_make M_Rounds.plain (hr.mono (by decide)) takes0 (by rfl) (da_cons (vv 3) da_nil)))) da_nil))))))
  (dss_cons (ds_for PassesOwn.leaving rfl (di_seq (vv 1)) (pg_name (i := 2) nd rfl (by first | exact .inl rfl | exact .inr rfl) (by first | exact .inl rfl | exact .inr rfl)) gd_name (dss_one (ds_if (dw_t (dw_and (dt_val (isi_ G.f_isinstance (da_cons (vv 0) (da_cons (ty_str G.f_str) da_nil))) (by intro _; rfl)) (dw_and1 (dt_cmp (op_eqD (unitsOk hr)) opd_eq (de_propT T_text (hr.mono (by decide)) (vv 2)) (vv 0) (nomark _))))) (dss_one (ds_ret (vv 2))) dss_nil)))
  (dss_one (ds_raise GE.mk_InvalidSchedule rfl tk (hr.mono (by decide)) rfl (da_cons (vv 0) da_nil)))))
  exact ⟨⟨fd, F.kp, F.bindsN (fun _ _ _ _ _ _ us hl => match us, hl with | [_], _ => rfl), hF⟩⟩
theorem sc_Schedule___eq__ : FnScope N_Schedule___eq__ P_Schedule___eq__ (defScope s_Schedule___eq__) := ⟨rfl, rfl, rfl, by decide +kernel, rfl, by decide +kernel, by decide +kernel⟩
theorem ok_Schedule___eq__ (G : GS K mg) (GE : Errs P w K mg base) (T_text : PropT P w K mg base "text" 1 tb_text) : DefOk P w K mg base (methAt "Schedule" "__eq__" K) P_Schedule___eq__ 3 m_Schedule___eq__ := by
  obtain ⟨fd, F⟩ := G.d_Schedule___eq__
  generalize methAt "Schedule" "__eq__" K = fA at F ⊢
  have E := G.ef
  have nd := (sc_Schedule___eq__).nd
  have hF : FnOk P w K mg base (L2.CX P w) (2 + 1) fA fd P_Schedule___eq__ (spD ⟨K, mg⟩ P_Schedule___eq__.length (cleanD (defD N_Schedule___eq__.length b_Schedule___eq__))) := by
    refine def_ok F sc_Schedule___eq__ fun cdv A outer s H E0 B hr => ?_
    have tk := takes_cx (P := P) (w := w) (K := K) (mg := mg) (base := base) (N := N_Schedule___eq__) (qual := "Schedule.__eq__") (scope := defScope s_Schedule___eq__) (f := fA) (cdv := cdv) (A := A) (outer := outer) (s := s) (H := H) (E := E0)
    unfold b_Schedule___eq__
    exact (dss_cons (ds_if (dt_not (dt_val (isiO_ G.iso G.f_isinstance (da_cons (vv 1) (da_cons (g_cls G.m_Schedule) da_nil))) (by intro _; rfl))) (dss_one (ds_ret de_bl)) dss_nil)
  (dss_one (ds_ret (de_cmp (op_eqD (unitsOk hr)) opd_eq (de_propT T_text (hr.mono (by decide)) (vv 0)) (de_propT T_text (hr.mono (by decide)) (vv 1)) (nomark _)))))
  exact ⟨⟨fd, F.kp, F.bindsN (fun _ _ _ _ _ _ us hl => match us, hl with | [_, _], _ => rfl), hF⟩⟩
theorem sc__law_field : FnScope N__law_field P__law_field (defScope s__law_field) := ⟨rfl, rfl, rfl, by decide +kernel, rfl, by decide +kernel, by decide +kernel⟩
theorem cf_ok (G : GS K mg) (E : ErrFs K mg fc) : CalleeF P w K mg base "_law_field" P__law_field 1 (mField fc) := by
  obtain ⟨f, fd, hm, F⟩ := G.d__law_field
  have nd := (sc__law_field).nd
  refine ⟨f, fd, hm, F.kp, F.bindsN (fun _ _ _ _ _ _ us hl => match us, hl with | [_], _ => rfl), def_okF (N := N__law_field) (m := bField fc) F sc__law_field (k := 0) fun cdv A outer s H B hr => ?_⟩
  unfold bField
  exact (dss_cons (ds_if (dt_cmp op_in_seq (opd_inS false) (de_attr (vv 0) E.code) (de_tup (da_cons de_str (da_cons de_str (da_cons de_str (da_cons de_str (da_cons de_str (da_cons de_str (da_cons de_str (da_cons de_str da_nil))))))))) (by rfl)) (dss_one (ds_ret (de_tup (da_cons (de_attr (vv 0) E.given) da_nil)))) dss_nil)
  (dss_cons (ds_if (dt_cmp op_in_seq (opd_inS false) (de_attr (vv 0) E.code) (de_tup (da_cons de_str (da_cons de_str (da_cons de_str da_nil)))) (by rfl)) (dss_one (ds_ret (de_tup (da_cons (de_attr (vv 0) E.at_) da_nil)))) dss_nil)
  (dss_cons (ds_if (dt_cmp op_in_seq (opd_inS false) (de_attr (vv 0) E.code) (de_tup (da_cons de_str (da_cons de_str (da_cons de_str (da_cons de_str (da_cons de_str da_nil)))))) (by rfl)) (dss_one (ds_ret (de_tup (da_cons (de_attr (vv 0) E.name) da_nil)))) dss_nil)
  (dss_cons (ds_if (dt_cmp op_in_seq (opd_inS false) (de_attr (vv 0) E.code) (de_tup (da_cons de_str (da_cons de_str da_nil))) (by rfl)) (dss_one (ds_ret (de_tup (da_cons (de_attr (vv 0) E.most) da_nil)))) dss_nil)
  (dss_cons (ds_if (dt_cmp (op_eqD (unitsF hr)) opd_eq (de_attr (vv 0) E.code) de_str (nomark _)) (dss_one (ds_ret (de_tup (da_cons (de_attr (vv 0) E.cost) da_nil)))) dss_nil)
  (dss_one (ds_ret (de_if (dt_cmp (op_eqD (unitsF hr)) opd_eq (de_attr (vv 0) E.code) de_str (nomark _)) (de_tup (da_cons (de_attr (vv 0) E.line) da_nil)) (de_tup da_nil)))))))))
theorem sc__law_why : FnScope N__law_why P__law_why (defScope s__law_why) := ⟨rfl, rfl, rfl, by decide +kernel, rfl, by decide +kernel, by decide +kernel⟩
theorem ok_lam_0 (G : GS K mg) (GE : Errs P w K mg base) (M_Late : MkK P w K mg base "Late" P_Late___init__ [(1, ["calls"])] 3 m_Late___init__) : LamOk P w K mg base 5 lam_0 lm_0 := by
  have E := G.ef
  refine ⟨⟨N_lam_0, [], lb_0, NdefX.nscope_by (by decide +kernel), ⟨fun _ => ⟨rfl, fun _ _ _ _ _ => rfl⟩, fun h => absurd h (by decide)⟩, fun A outer s H E f cl c' B hr => ?_, fun _ _ => rfl⟩⟩
  have nd : N_lam_0.Nodup := by decide +kernel
  have tk : Takes (NdefX.ncx (L2.CX P w) P w K mg base N_lam_0 (nfOf lam_0 cl c') f A outer s H E) (fun cls d _ H => E cls d H) := takes_of rfl rfl rfl rfl
  unfold lb_0
  exact (de_make M_Late.plain (hr.mono (by decide)) tk (by rfl) (da_cons (vv 0) da_nil))
theorem ok_lam_1 (G : GS K mg) (GE : Errs P w K mg base) (M_Rounds : MkK P w K mg base "Rounds" P_Rounds___init__ [(1, ["calls"])] 3 m_Rounds___init__) : LamOk P w K mg base 5 lam_1 lm_1 := by
  have E := G.ef
  refine ⟨⟨N_lam_1, ["_law_a"], lb_1, NdefX.nscope_by (by decide +kernel), ⟨fun h => absurd h (by decide), fun _ => ⟨"_law_a", rfl, fun _ _ _ _ _ _ => ⟨_, rfl, fun _ => rfl⟩⟩⟩, fun A outer s H E f cl c' B hr => ?_, fun _ _ => rfl⟩⟩
  have nd : N_lam_1.Nodup := by decide +kernel
  have tk : Takes (NdefX.ncx (L2.CX P w) P w K mg base N_lam_1 (nfOf lam_1 cl c') f A outer s H E) (fun cls d _ H => E cls d H) := takes_of rfl rfl rfl rfl
  unfold lb_1
  exact (de_make M_Rounds.plain (hr.mono (by decide)) tk (by rfl) (da_cons (vv 1) da_nil))
theorem ok_lam_2 (G : GS K mg) (GE : Errs P w K mg base) (M_Rounds : MkK P w K mg base "Rounds" P_Rounds___init__ [(1, ["calls"])] 3 m_Rounds___init__) : LamOk P w K mg base 5 lam_2 lm_2 := by
  have E := G.ef
  refine ⟨⟨N_lam_2, ["_law_b"], lb_2, NdefX.nscope_by (by decide +kernel), ⟨fun h => absurd h (by decide), fun _ => ⟨"_law_b", rfl, fun _ _ _ _ _ _ => ⟨_, rfl, fun _ => rfl⟩⟩⟩, fun A outer s H E f cl c' B hr => ?_, fun _ _ => rfl⟩⟩
  have nd : N_lam_2.Nodup := by decide +kernel
  have tk : Takes (NdefX.ncx (L2.CX P w) P w K mg base N_lam_2 (nfOf lam_2 cl c') f A outer s H E) (fun cls d _ H => E cls d H) := takes_of rfl rfl rfl rfl
  unfold lb_2
  exact (de_make M_Rounds.plain (hr.mono (by decide)) tk (by rfl) (da_cons de_int da_nil))
theorem ok_lam_3 (G : GS K mg) (GE : Errs P w K mg base) (S_Schedule_read : StatC P w K mg base "Schedule" "read" P_Schedule_read 5 m_Schedule_read) : LamOk P w K mg base 5 lam_3 lm_3 := by
  have E := G.ef
  refine ⟨⟨N_lam_3, ["_law_c"], lb_3, NdefX.nscope_by (by decide +kernel), ⟨fun h => absurd h (by decide), fun _ => ⟨"_law_c", rfl, fun _ _ _ _ _ _ => ⟨_, rfl, fun _ => rfl⟩⟩⟩, fun A outer s H E f cl c' B hr => ?_, fun _ _ => rfl⟩⟩
  have nd : N_lam_3.Nodup := by decide +kernel
  have tk : Takes (NdefX.ncx (L2.CX P w) P w K mg base N_lam_3 (nfOf lam_3 cl c') f A outer s H E) (fun cls d _ H => E cls d H) := takes_of rfl rfl rfl rfl
  unfold lb_3
  exact (de_stat S_Schedule_read (hr.mono (by decide)) tk (by rfl) (da_cons (vv 1) da_nil))
theorem ok__law_why (G : GS K mg) (all : ∀ j, j < 4 → LamOk P w K mg base 5 (lams j) (ltab j)) : Callee P w K mg base "_law_why" P__law_why [] 7 m__law_why := by
  obtain ⟨f, fd, hm, F⟩ := G.d__law_why
  have E := G.ef
  have CF := cf_ok (P := P) (w := w) (base := base) G G.ef
  have nd := (sc__law_why).nd
  have hC : Callee P w K mg base "_law_why" P__law_why [] (6 + 1) (cleanD (defD N__law_why.length (bWhy fc (dAskC 0 4 lams ltab)))) := by
    refine callee hm F sc__law_why (fun _ _ _ _ _ _ us hl => match us, hl with | [_], _ => rfl) (fun q hq => absurd hq List.not_mem_nil) fun cdv A outer s H E0 B hr => ?_
    have tk := takes_cx (P := P) (w := w) (K := K) (mg := mg) (base := base) (N := N__law_why) (qual := "_law_why") (scope := defScope s__law_why) (f := f) (cdv := cdv) (A := A) (outer := outer) (s := s) (H := H) (E := E0)
    unfold bWhy
    exact dss_one (ds_try3 (cs := fc "code") rfl rfl rfl nd rfl rfl ⟨rfl, by decide, .inl G.m_CallError⟩ ⟨rfl, by decide, .inl G.m_Missing⟩ ⟨rfl, by decide, .inl G.m_NothingLeft⟩ tk G.cat (fun W pn xe tk po => dss_one (ds_ret (de_tup (da_cons de_str (da_cons (de_askC (i := 0) (n := 4) (k := 5) (lams := lams) (tab := ltab) rfl (by first | exact .inl rfl | exact .inr (.inl rfl)) (by decide) (by decide) tk (hr.mono (by decide)) all) da_nil))))) (fun a pn => dss_one (ds_ret (de_op op_addA opd_add (de_tup (da_cons (de_attr (vv 1) E.code) da_nil)) (de_callF CF (let h := RoomF.of (hr.mono (show 1 ≤ 6 by decide)); ⟨h.deep, h.many⟩) rfl (da_cons (vv 1) da_nil))))))
  exact hC
theorem sc__law_whys : FnScope N__law_whys P__law_whys (defScope s__law_whys) := ⟨rfl, rfl, rfl, by decide +kernel, rfl, by decide +kernel, by decide +kernel⟩
theorem ok__law_whys (G : GS K mg) (GE : Errs P w K mg base) (C__law_why : Callee P w K mg base "_law_why" P__law_why [] 7 m__law_why) : Callee P w K mg base "_law_whys" P__law_whys [] 8 m__law_whys := by
  obtain ⟨f, fd, hm, F⟩ := G.d__law_whys
  have E := G.ef
  have nd := (sc__law_whys).nd
  have hC : Callee P w K mg base "_law_whys" P__law_whys [] (7 + 1) (cleanD (defD N__law_whys.length b__law_whys)) := by
    refine callee hm F sc__law_whys (fun _ _ _ _ _ _ us hl => match us, hl with | [_], _ => rfl) (fun q hq => absurd hq List.not_mem_nil) fun cdv A outer s H E B hr => ?_
    have tk := takes_cx (P := P) (w := w) (K := K) (mg := mg) (base := base) (N := N__law_whys) (qual := "_law_whys") (scope := defScope s__law_whys) (f := f) (cdv := cdv) (A := A) (outer := outer) (s := s) (H := H) (E := E)
    unfold b__law_whys
    exact (dss_one (ds_ret (de_lc (own := [("_law_ask", 1)]) rfl nd (di_seq (vv 0)) (blkOk_by (by kernel_rfl)) gd_name (by decide) (fun _ _ _ _ _ => (pg_name (i := 1) nd rfl (by first | exact .inl rfl | exact .inr rfl) (by first | exact .inl rfl | exact .inr rfl))) (fun _ _ _ _ _ _ => dts_nil) (fun _ _ _ _ _ _ => (de_callN C__law_why (hr.mono (by decide)) takes0 (by rfl) (da_cons (vv 1) da_nil))))))
  exact hC
theorem sc_Late_span : FnScope N_Late_span P_Late_span (defScope s_Late_span) := ⟨rfl, rfl, rfl, by decide +kernel, rfl, by decide +kernel, by decide +kernel⟩
theorem ok_Late_span (G : GS K mg) (GE : Errs P w K mg base)  : DefOk P w K mg base (propAt "Late" "span" K) P_Late_span 1 m_Late_span := by
  obtain ⟨fd, F⟩ := G.d_Late_span
  generalize propAt "Late" "span" K = fA at F ⊢
  have E := G.ef
  have nd := (sc_Late_span).nd
  have hF : FnOk P w K mg base (L2.CX P w) (0 + 1) fA fd P_Late_span (spD ⟨K, mg⟩ P_Late_span.length (cleanD (defD N_Late_span.length b_Late_span))) := by
    refine def_ok F sc_Late_span fun cdv A outer s H E0 B hr => ?_
    have tk := takes_cx (P := P) (w := w) (K := K) (mg := mg) (base := base) (N := N_Late_span) (qual := "Late.span") (scope := defScope s_Late_span) (f := fA) (cdv := cdv) (A := A) (outer := outer) (s := s) (H := H) (E := E0)
    unfold b_Late_span
    exact (dss_one (ds_ret (de_fld (vv 0) G.fd_own_calls)))
  exact ⟨⟨fd, F.kp, F.bindsN (fun _ _ _ _ _ _ us hl => match us, hl with | [_], _ => rfl), hF⟩⟩
theorem sc_Rounds_span : FnScope N_Rounds_span P_Rounds_span (defScope s_Rounds_span) := ⟨rfl, rfl, rfl, by decide +kernel, rfl, by decide +kernel, by decide +kernel⟩
theorem ok_Rounds_span (G : GS K mg) (GE : Errs P w K mg base)  : DefOk P w K mg base (propAt "Rounds" "span" K) P_Rounds_span 1 m_Rounds_span := by
  obtain ⟨fd, F⟩ := G.d_Rounds_span
  generalize propAt "Rounds" "span" K = fA at F ⊢
  have E := G.ef
  have nd := (sc_Rounds_span).nd
  have hF : FnOk P w K mg base (L2.CX P w) (0 + 1) fA fd P_Rounds_span (spD ⟨K, mg⟩ P_Rounds_span.length (cleanD (defD N_Rounds_span.length b_Rounds_span))) := by
    refine def_ok F sc_Rounds_span fun cdv A outer s H E0 B hr => ?_
    have tk := takes_cx (P := P) (w := w) (K := K) (mg := mg) (base := base) (N := N_Rounds_span) (qual := "Rounds.span") (scope := defScope s_Rounds_span) (f := fA) (cdv := cdv) (A := A) (outer := outer) (s := s) (H := H) (E := E0)
    unfold b_Rounds_span
    exact (dss_one (ds_ret (de_fld (vv 0) G.fd_own_calls)))
  exact ⟨⟨fd, F.kp, F.bindsN (fun _ _ _ _ _ _ us hl => match us, hl with | [_], _ => rfl), hF⟩⟩
theorem sc_Schedule_can_leave : FnScope N_Schedule_can_leave P_Schedule_can_leave (defScope s_Schedule_can_leave) := ⟨rfl, rfl, rfl, by decide +kernel, rfl, by decide +kernel, by decide +kernel⟩
theorem ok_Schedule_can_leave (G : GS K mg) (GE : Errs P w K mg base)  : DefOk P w K mg base (methAt "Schedule" "can_leave" K) P_Schedule_can_leave 1 m_Schedule_can_leave := by
  obtain ⟨fd, F⟩ := G.d_Schedule_can_leave
  generalize methAt "Schedule" "can_leave" K = fA at F ⊢
  have E := G.ef
  have nd := (sc_Schedule_can_leave).nd
  have hF : FnOk P w K mg base (L2.CX P w) (0 + 1) fA fd P_Schedule_can_leave (spD ⟨K, mg⟩ P_Schedule_can_leave.length (cleanD (defD N_Schedule_can_leave.length b_Schedule_can_leave))) := by
    refine def_ok F sc_Schedule_can_leave fun cdv A outer s H E0 B hr => ?_
    have tk := takes_cx (P := P) (w := w) (K := K) (mg := mg) (base := base) (N := N_Schedule_can_leave) (qual := "Schedule.can_leave") (scope := defScope s_Schedule_can_leave) (f := fA) (cdv := cdv) (A := A) (outer := outer) (s := s) (H := H) (E := E0)
    unfold b_Schedule_can_leave
    exact (dss_one (ds_ret de_bl))
  exact ⟨⟨fd, F.kp, F.bindsN (fun _ _ _ _ _ _ us hl => match us, hl with | [_, _], _ => rfl), hF⟩⟩
theorem sc_Now_can_leave : FnScope N_Now_can_leave P_Now_can_leave (defScope s_Now_can_leave) := ⟨rfl, rfl, rfl, by decide +kernel, rfl, by decide +kernel, by decide +kernel⟩
theorem ok_Now_can_leave (G : GS K mg) (GE : Errs P w K mg base)  : DefOk P w K mg base (methAt "Now" "can_leave" K) P_Now_can_leave 1 m_Now_can_leave := by
  obtain ⟨fd, F⟩ := G.d_Now_can_leave
  generalize methAt "Now" "can_leave" K = fA at F ⊢
  have E := G.ef
  have nd := (sc_Now_can_leave).nd
  have hF : FnOk P w K mg base (L2.CX P w) (0 + 1) fA fd P_Now_can_leave (spD ⟨K, mg⟩ P_Now_can_leave.length (cleanD (defD N_Now_can_leave.length b_Now_can_leave))) := by
    refine def_ok F sc_Now_can_leave fun cdv A outer s H E0 B hr => ?_
    have tk := takes_cx (P := P) (w := w) (K := K) (mg := mg) (base := base) (N := N_Now_can_leave) (qual := "Now.can_leave") (scope := defScope s_Now_can_leave) (f := fA) (cdv := cdv) (A := A) (outer := outer) (s := s) (H := H) (E := E0)
    unfold b_Now_can_leave
    exact (dss_one (ds_ret (de_cmp (op_eqD (unitsOk hr)) opd_eq (vv 1) de_int (nomark _))))
  exact ⟨⟨fd, F.kp, F.bindsN (fun _ _ _ _ _ _ us hl => match us, hl with | [_, _], _ => rfl), hF⟩⟩
theorem sc_Late_can_leave : FnScope N_Late_can_leave P_Late_can_leave (defScope s_Late_can_leave) := ⟨rfl, rfl, rfl, by decide +kernel, rfl, by decide +kernel, by decide +kernel⟩
theorem ok_Late_can_leave (G : GS K mg) (GE : Errs P w K mg base)  : DefOk P w K mg base (methAt "Late" "can_leave" K) P_Late_can_leave 1 m_Late_can_leave := by
  obtain ⟨fd, F⟩ := G.d_Late_can_leave
  generalize methAt "Late" "can_leave" K = fA at F ⊢
  have E := G.ef
  have nd := (sc_Late_can_leave).nd
  have hF : FnOk P w K mg base (L2.CX P w) (0 + 1) fA fd P_Late_can_leave (spD ⟨K, mg⟩ P_Late_can_leave.length (cleanD (defD N_Late_can_leave.length b_Late_can_leave))) := by
    refine def_ok F sc_Late_can_leave fun cdv A outer s H E0 B hr => ?_
    have tk := takes_cx (P := P) (w := w) (K := K) (mg := mg) (base := base) (N := N_Late_can_leave) (qual := "Late.can_leave") (scope := defScope s_Late_can_leave) (f := fA) (cdv := cdv) (A := A) (outer := outer) (s := s) (H := H) (E := E0)
    unfold b_Late_can_leave
    exact (dss_one (ds_ret (de_cmp op_le opd_cmp (vv 1) (de_fld (vv 0) G.fd_own_calls) (nomark _))))
  exact ⟨⟨fd, F.kp, F.bindsN (fun _ _ _ _ _ _ us hl => match us, hl with | [_, _], _ => rfl), hF⟩⟩
theorem sc_Rounds_can_leave : FnScope N_Rounds_can_leave P_Rounds_can_leave (defScope s_Rounds_can_leave) := ⟨rfl, rfl, rfl, by decide +kernel, rfl, by decide +kernel, by decide +kernel⟩
theorem ok_Rounds_can_leave (G : GS K mg) (GE : Errs P w K mg base)  : DefOk P w K mg base (methAt "Rounds" "can_leave" K) P_Rounds_can_leave 1 m_Rounds_can_leave := by
  obtain ⟨fd, F⟩ := G.d_Rounds_can_leave
  generalize methAt "Rounds" "can_leave" K = fA at F ⊢
  have E := G.ef
  have nd := (sc_Rounds_can_leave).nd
  have hF : FnOk P w K mg base (L2.CX P w) (0 + 1) fA fd P_Rounds_can_leave (spD ⟨K, mg⟩ P_Rounds_can_leave.length (cleanD (defD N_Rounds_can_leave.length b_Rounds_can_leave))) := by
    refine def_ok F sc_Rounds_can_leave fun cdv A outer s H E0 B hr => ?_
    have tk := takes_cx (P := P) (w := w) (K := K) (mg := mg) (base := base) (N := N_Rounds_can_leave) (qual := "Rounds.can_leave") (scope := defScope s_Rounds_can_leave) (f := fA) (cdv := cdv) (A := A) (outer := outer) (s := s) (H := H) (E := E0)
    unfold b_Rounds_can_leave
    exact (dss_one (ds_ret (de_cmp op_lt opd_cmp (vv 1) (de_fld (vv 0) G.fd_own_calls) (nomark _))))
  exact ⟨⟨fd, F.kp, F.bindsN (fun _ _ _ _ _ _ us hl => match us, hl with | [_, _], _ => rfl), hF⟩⟩
theorem sc_law : FnScope N_law P_law (defScope s_law) := ⟨rfl, rfl, rfl, by decide +kernel, rfl, by decide +kernel, by decide +kernel⟩
abbrev JL_law : Nat := 0
theorem ok_all (G : GS K mg) (GE : Errs P w K mg base) (TB : LamX.TabB base mg (He.cT K ("law", none)).1 (He.cT K ("law", none)).2) {fd : FuncData} (F : FunD K "law" "law" (defArgs s_law) (defBody s_law) (defScope s_law) [] [] (He.fAd K ("law", none)) fd) : FnOk P w K mg base (L2.CX P w) 13 (He.fAd K ("law", none)) fd P_law (spL ⟨K, mg⟩ 1 m_law) := by
  have C__law_source := ok__law_source (P := P) (w := w) (base := base) G GE 
  have C__law_draw := ok__law_draw (P := P) (w := w) (base := base) G GE 
  have C__law_of := ok__law_of (P := P) (w := w) (base := base) G GE C__law_draw
  have C_is_integer := ok_is_integer (P := P) (w := w) (base := base) G GE 
  have C_is_within := ok_is_within (P := P) (w := w) (base := base) G GE C_is_integer
  have D_Late___init__ := ok_Late___init__ (P := P) (w := w) (base := base) G GE C_is_within
  have M_Late := mkK_of G.m_Late G.mk_Late D_Late___init__
  have D_Rounds___init__ := ok_Rounds___init__ (P := P) (w := w) (base := base) G GE C_is_within
  have M_Rounds := mkK_of G.m_Rounds G.mk_Rounds D_Rounds___init__
  have C__law_like := ok__law_like (P := P) (w := w) (base := base) G GE  12
  have D_Schedule_text := ok_Schedule_text (P := P) (w := w) (base := base) G GE 
  have D_Now_text := ok_Now_text (P := P) (w := w) (base := base) G GE 
  have D_Late_text := ok_Late_text (P := P) (w := w) (base := base) G GE 
  have D_Rounds_text := ok_Rounds_text (P := P) (w := w) (base := base) G GE 
  have D_Never_text := ok_Never_text (P := P) (w := w) (base := base) G GE 
  have T_text : PropT P w K mg base "text" 1 tb_text := (PropT.cons (propC_of G.m_Schedule G.i_Schedule.cl G.pr_Schedule_text D_Schedule_text rfl) (by decide) (PropT.cons (propC_of G.m_Now G.i_Now.cl G.pr_Now_text D_Now_text rfl) (by decide) (PropT.cons (propC_of G.m_Late G.i_Late.cl G.pr_Late_text D_Late_text rfl) (by decide) (PropT.cons (propC_of G.m_Rounds G.i_Rounds.cl G.pr_Rounds_text D_Rounds_text rfl) (by decide) (PropT.cons (propC_of G.m_Never G.i_Never.cl G.pr_Never_text D_Never_text rfl) (by decide) PropT.nil)))))
  have D_Schedule___repr__ := ok_Schedule___repr__ (P := P) (w := w) (base := base) G GE T_text
  have TR : RepT P w K mg base 3 tb_repr := (RepT.cons (methC_of G.m_Schedule G.i_Schedule.cl G.sm_Schedule___repr__ D_Schedule___repr__) rfl (by decide) (RepT.cons (methC_of G.m_Now G.i_Now.cl G.sm_Now___repr__ D_Schedule___repr__) rfl (by decide) (RepT.cons (methC_of G.m_Late G.i_Late.cl G.sm_Late___repr__ D_Schedule___repr__) rfl (by decide) (RepT.cons (methC_of G.m_Rounds G.i_Rounds.cl G.sm_Rounds___repr__ D_Schedule___repr__) rfl (by decide) (RepT.cons (methC_of G.m_Never G.i_Never.cl G.sm_Never___repr__ D_Schedule___repr__) rfl (by decide) RepT.nil)))))
  have D_Schedule_reported := ok_Schedule_reported (P := P) (w := w) (base := base) G GE 
  have D_Now_reported := ok_Now_reported (P := P) (w := w) (base := base) G GE 
  have D_Late_reported := ok_Late_reported (P := P) (w := w) (base := base) G GE 
  have D_Rounds_reported := ok_Rounds_reported (P := P) (w := w) (base := base) G GE 
  have T_reported : MethT P w K mg base "reported" 2 1 tb_reported := (MethT.cons (methC_of G.m_Schedule G.i_Schedule.cl G.sm_Schedule_reported D_Schedule_reported) rfl (by decide) (MethT.cons (methC_of G.m_Now G.i_Now.cl G.sm_Now_reported D_Now_reported) rfl (by decide) (MethT.cons (methC_of G.m_Late G.i_Late.cl G.sm_Late_reported D_Late_reported) rfl (by decide) (MethT.cons (methC_of G.m_Rounds G.i_Rounds.cl G.sm_Rounds_reported D_Rounds_reported) rfl (by decide) (MethT.cons (methC_of G.m_Never G.i_Never.cl G.sm_Never_reported D_Schedule_reported) rfl (by decide) MethT.nil)))))
  have D_Schedule_read := ok_Schedule_read (P := P) (w := w) (base := base) G GE M_Rounds M_Late T_text
  have S_Schedule_read := statC_of G.m_Schedule G.st_Schedule_read D_Schedule_read
  have D_Schedule___eq__ := ok_Schedule___eq__ (P := P) (w := w) (base := base) G GE T_text
  have TQ : EqT P w K mg base 3 tb_eq okp := (EqT.cons (eqC_of G.m_Schedule G.sm_Schedule___eq__ G.eqc_Schedule D_Schedule___eq__ rfl) G.m_Schedule G.eqc_Schedule (by decide) (EqT.cons (eqC_of G.m_Now G.sm_Now___eq__ G.eqc_Now D_Schedule___eq__ rfl) G.m_Now G.eqc_Now (by decide) (EqT.cons (eqC_of G.m_Late G.sm_Late___eq__ G.eqc_Late D_Schedule___eq__ rfl) G.m_Late G.eqc_Late (by decide) (EqT.cons (eqC_of G.m_Rounds G.sm_Rounds___eq__ G.eqc_Rounds D_Schedule___eq__ rfl) G.m_Rounds G.eqc_Rounds (by decide) (EqT.cons (eqC_of G.m_Never G.sm_Never___eq__ G.eqc_Never D_Schedule___eq__ rfl) G.m_Never G.eqc_Never (by decide) (EqT.nil (okp := okp) G.eqp (okp_named G)))))))
  have LO_0 := ok_lam_0 (P := P) (w := w) (base := base) G GE M_Late
  have LO_1 := ok_lam_1 (P := P) (w := w) (base := base) G GE M_Rounds
  have LO_2 := ok_lam_2 (P := P) (w := w) (base := base) G GE M_Rounds
  have LO_3 := ok_lam_3 (P := P) (w := w) (base := base) G GE S_Schedule_read
  have C__law_why := ok__law_why (P := P) (w := w) (base := base) G (fun j hj => match j, hj with | 0, _ => LO_0 | 1, _ => LO_1 | 2, _ => LO_2 | 3, _ => LO_3 | j + 4, hj => absurd hj (by omega))
  have C__law_whys := ok__law_whys (P := P) (w := w) (base := base) G GE C__law_why
  have D_Late_span := ok_Late_span (P := P) (w := w) (base := base) G GE 
  have D_Rounds_span := ok_Rounds_span (P := P) (w := w) (base := base) G GE 
  have T_span : PropT P w K mg base "span" 1 tb_span := (PropT.cons (propC_of G.m_Late G.i_Late.cl G.pr_Late_span D_Late_span rfl) (by decide) (PropT.cons (propC_of G.m_Rounds G.i_Rounds.cl G.pr_Rounds_span D_Rounds_span rfl) (by decide) PropT.nil))
  have D_Schedule_can_leave := ok_Schedule_can_leave (P := P) (w := w) (base := base) G GE 
  have D_Now_can_leave := ok_Now_can_leave (P := P) (w := w) (base := base) G GE 
  have D_Late_can_leave := ok_Late_can_leave (P := P) (w := w) (base := base) G GE 
  have D_Rounds_can_leave := ok_Rounds_can_leave (P := P) (w := w) (base := base) G GE 
  have T_can_leave : MethT P w K mg base "can_leave" 2 1 tb_can_leave := (MethT.cons (methC_of G.m_Schedule G.i_Schedule.cl G.sm_Schedule_can_leave D_Schedule_can_leave) rfl (by decide) (MethT.cons (methC_of G.m_Now G.i_Now.cl G.sm_Now_can_leave D_Now_can_leave) rfl (by decide) (MethT.cons (methC_of G.m_Late G.i_Late.cl G.sm_Late_can_leave D_Late_can_leave) rfl (by decide) (MethT.cons (methC_of G.m_Rounds G.i_Rounds.cl G.sm_Rounds_can_leave D_Rounds_can_leave) rfl (by decide) (MethT.cons (methC_of G.m_Never G.i_Never.cl G.sm_Never_can_leave D_Schedule_can_leave) rfl (by decide) MethT.nil)))))
  have E := G.ef
  have CF := cf_ok (P := P) (w := w) (base := base) G E
  have nd := (sc_law).nd
  refine def_okL F sc_law (k := 12) (m := b_law) fun A outer s H E0 B hr => ?_
  have tk := takes_cx (P := P) (w := w) (K := K) (mg := mg) (base := base) (N := N_law) (qual := "law") (scope := defScope s_law) (f := He.fAd K ("law", none)) (cdv := .ref (He.codeOf K ("law", none))) (A := A) (outer := outer) (s := s) (H := H) (E := E0)
  unfold b_law
  exact (dss_cons (ds_set nd rfl (by first | exact .inl rfl | exact .inr rfl) (de_callN C__law_source (hr.mono (by decide)) tk (by rfl) (da_cons (vv 0) da_nil)))
  (dss_cons (ds_set nd rfl (by first | exact .inl rfl | exact .inr rfl) (de_lst (da_cons (de_makePl G.pl_Now rfl) (da_cons (de_make M_Late.plain (hr.mono (by decide)) tk (by rfl) (da_cons de_int da_nil)) (da_cons (de_makeK0 M_Late (hr.mono (by decide)) tk (by rfl) (ks := ["calls"]) (by simp) (dk_cons de_int dk_nil)) (da_cons (de_make M_Late.plain (hr.mono (by decide)) tk (by rfl) (da_cons de_int da_nil)) (da_cons (de_make M_Rounds.plain (hr.mono (by decide)) tk (by rfl) (da_cons de_int da_nil)) (da_cons (de_makeK0 M_Rounds (hr.mono (by decide)) tk (by rfl) (ks := ["calls"]) (by simp) (dk_cons de_int dk_nil)) (da_cons (de_makePl G.pl_Never rfl) (da_cons (de_makePl G.pl_Schedule rfl) da_nil))))))))))
  (dss_cons (ds_set nd rfl (by first | exact .inl rfl | exact .inr rfl) (de_lst (da_cons de_str (da_cons de_str (da_cons de_str (da_cons de_str (da_cons de_str (da_cons de_str (da_cons de_str (da_cons de_str da_nil))))))))))
  (dss_cons (ds_if (dt_not (dt_val (de_callN C__law_like (hr.mono (by decide)) tk (by rfl) (da_cons (de_lc (own := [("_law_one", 14)]) rfl nd (di_seq (vv 2)) (blkOk_by (by kernel_rfl)) gd_name (by decide) (fun _ _ _ _ _ => (pg_name (i := 14) nd rfl (by first | exact .inl rfl | exact .inr rfl) (by first | exact .inl rfl | exact .inr rfl))) (fun _ _ _ _ _ _ => dts_nil) (fun _ _ _ _ _ _ => (de_propT T_text (hr.mono (by decide)) (vv 14)))) (da_cons (vv 3) da_nil))) (by intro _; rfl))) (dss_one (ds_ret de_bl)) dss_nil)
  (dss_cons (ds_if (dt_cmp (op_neD (unitsOk hr)) opd_ne (de_lc (own := [("_law_one", 14)]) rfl nd (di_seq (vv 2)) (blkOk_by (by kernel_rfl)) gd_name (by decide) (fun _ _ _ _ _ => (pg_name (i := 14) nd rfl (by first | exact .inl rfl | exact .inr rfl) (by first | exact .inl rfl | exact .inr rfl))) (fun _ _ _ _ _ _ => dts_nil) (fun _ _ _ _ _ _ => (repr_ TR (hr.mono (by decide)) G.f_repr (da_cons (vv 14) da_nil)))) (de_lc (own := [("_law_text", 11)]) rfl nd (di_seq (vv 3)) (blkOk_by (by kernel_rfl)) gd_name (by decide) (fun _ _ _ _ _ => (pg_name (i := 11) nd rfl (by first | exact .inl rfl | exact .inr rfl) (by first | exact .inl rfl | exact .inr rfl))) (fun _ _ _ _ _ _ => dts_nil) (fun _ _ _ _ _ _ => (de_op op_addA opd_add (de_op op_addA opd_add de_str (vv 11)) de_str))) (nomark _)) (dss_one (ds_ret de_bl)) dss_nil)
  (dss_cons (ds_set nd rfl (by first | exact .inl rfl | exact .inr rfl) (de_op op_addA opd_add de_int (de_callN C__law_draw (hr.mono (by decide)) tk (by rfl) (da_cons (vv 1) (da_cons de_int da_nil)))))
  (dss_cons (ds_setLc (i := 5) (hc := rfl) (hN := nd) (hy := rfl) (hyl := rfl) (hsw := sw_true rfl rfl rfl (by decide +kernel)) (own := [("_law_one", 14)]) (di_seq (vv 2)) (blkOk_by (by kernel_rfl)) gd_name (by decide) (fun _ _ _ _ _ => (pg_name (i := 14) nd rfl (by first | exact .inl rfl | exact .inr rfl) (by first | exact .inl rfl | exact .inr rfl))) (fun _ _ _ _ _ _ => dts_nil) (fun _ _ _ _ _ _ => (de_methT T_reported (hr.mono (by decide)) takes0 (vv 14) (da_cons (vv 4) da_nil))))
  (dss_cons (ds_set nd rfl (by first | exact .inl rfl | exact .inr rfl) (de_lst (da_cons (vv 4) (da_cons (max2_ G.f_max (da_cons de_int (da_cons (de_op op_sub opd_sub (vv 4) de_int) da_nil))) (da_cons (max2_ G.f_max (da_cons de_int (da_cons (de_op op_sub opd_sub (vv 4) de_int) da_nil))) (da_cons (max2_ G.f_max (da_cons de_int (da_cons (de_op op_sub opd_sub (vv 4) de_int) da_nil))) (da_cons (de_if (dt_cmp (op_eqD (unitsOk hr)) opd_eq (vv 4) de_int (nomark _)) (vv 4) de_int) da_nil)))))))
  (dss_cons (ds_set nd rfl (by first | exact .inl rfl | exact .inr rfl) (de_op op_addA opd_add (vv 6) (de_lst (da_cons (de_if (dt_cmp (op_eqD (unitsOk hr)) opd_eq (vv 4) de_int (nomark _)) (vv 4) de_int) (da_cons de_int (da_cons de_int da_nil))))))
  (dss_cons (ds_if (dw_t (dw_or (dt_not (dt_val (de_callN C__law_like (hr.mono (by decide)) tk (by rfl) (da_cons (vv 5) (da_cons (vv 6) da_nil))) (by intro _; rfl))) (dw_or1 (dt_not (dt_val (de_callN C__law_like (hr.mono (by decide)) tk (by rfl) (da_cons (de_lc (own := [("_law_one", 14)]) rfl nd (di_seq (de_slice (vv 2) (do_some de_int) (do_some de_int))) (blkOk_by (by kernel_rfl)) gd_name (by decide) (fun _ _ _ _ _ => (pg_name (i := 14) nd rfl (by first | exact .inl rfl | exact .inr rfl) (by first | exact .inl rfl | exact .inr rfl))) (fun _ _ _ _ _ _ => dts_nil) (fun _ _ _ _ _ _ => (de_propT T_span (hr.mono (by decide)) (vv 14)))) (da_cons (de_lst (da_cons de_int (da_cons de_int (da_cons de_int (da_cons de_int (da_cons de_int da_nil)))))) da_nil))) (by intro _; rfl)))))) (dss_one (ds_ret de_bl)) dss_nil)
  (dss_cons (ds_set nd rfl (by first | exact .inl rfl | exact .inr rfl) (de_op op_sub opd_sub (vv 4) de_int))
  (dss_cons (ds_set nd rfl (by first | exact .inl rfl | exact .inr rfl) (de_lst (da_cons (de_cmp (op_eqD (unitsOk hr)) opd_eq (vv 7) de_int (nomark _)) (da_cons (de_cmp op_le opd_cmp (vv 7) de_int (nomark _)) (da_cons (de_cmp op_le opd_cmp (vv 7) de_int (nomark _)) (da_cons (de_cmp op_le opd_cmp (vv 7) de_int (nomark _)) (da_cons (de_cmp op_lt opd_cmp (vv 7) de_int (nomark _)) (da_cons (de_cmp op_lt opd_cmp (vv 7) de_int (nomark _)) (da_cons de_bl (da_cons de_bl da_nil))))))))))
  (dss_cons (ds_if (dt_not (dt_val (de_callN C__law_like (hr.mono (by decide)) tk (by rfl) (da_cons (de_lc (own := [("_law_one", 14)]) rfl nd (di_seq (vv 2)) (blkOk_by (by kernel_rfl)) gd_name (by decide) (fun _ _ _ _ _ => (pg_name (i := 14) nd rfl (by first | exact .inl rfl | exact .inr rfl) (by first | exact .inl rfl | exact .inr rfl))) (fun _ _ _ _ _ _ => dts_nil) (fun _ _ _ _ _ _ => (de_methT T_can_leave (hr.mono (by decide)) takes0 (vv 14) (da_cons (vv 7) da_nil)))) (da_cons (vv 6) da_nil))) (by intro _; rfl))) (dss_one (ds_ret de_bl)) dss_nil)
  (dss_cons (ds_for PassesOwn.leaving rfl (di_range1 (by rfl) G.f_range (da_cons de_int da_nil)) (pg_name (i := 8) nd rfl (by first | exact .inl rfl | exact .inr rfl) (by first | exact .inl rfl | exact .inr rfl)) gd_name (dss_cons (ds_set nd rfl (by first | exact .inl rfl | exact .inr rfl) (de_stat S_Schedule_read (hr.mono (by decide)) tk (by rfl) (da_cons (ix_ (vv 3) (vv 8)) da_nil)))
  (dss_cons (ds_if (dw_t (dw_or (dt_cmp (op_neD (unitsOk hr)) opd_ne (de_lc (own := [("_law_one", 14)]) rfl nd (di_seq (vv 2)) (blkOk_by (by kernel_rfl)) gd_name (by decide) (fun _ _ _ _ _ => (pg_name (i := 14) nd rfl (by first | exact .inl rfl | exact .inr rfl) (by first | exact .inl rfl | exact .inr rfl))) (fun _ _ _ _ _ _ => dts_nil) (fun _ _ _ _ _ _ => (de_cmp ((op_eqO _ rfl).or (op_eqD (unitsOk hr))) (opd_eqO TQ (hr.mono (by decide))) (vv 9) (vv 14) (nomark _)))) (de_lc (own := [("_law_k", 15)]) rfl nd (di_range1 (by rfl) G.f_range (da_cons de_int da_nil)) (blkOk_by (by kernel_rfl)) gd_name (by decide) (fun _ _ _ _ _ => (pg_name (i := 15) nd rfl (by first | exact .inl rfl | exact .inr rfl) (by first | exact .inl rfl | exact .inr rfl))) (fun _ _ _ _ _ _ => dts_nil) (fun _ _ _ _ _ _ => (de_cmp (op_eqD (unitsOk hr)) opd_eq (vv 15) (vv 8) (nomark _)))) (nomark _)) (dw_or1 (dt_cmp ((op_eqO _ rfl).or (op_eqD (unitsOk hr))) (opd_eqO TQ (hr.mono (by decide))) (vv 9) (ix_ (vv 3) (vv 8)) (nomark _))))) (dss_one (ds_ret de_bl)) dss_nil)
  (dss_one (ds_if (dw_t (dw_or (dt_not (dt_val (isiO_ G.iso G.f_isinstance (da_cons (vv 9) (da_cons (g_cls G.m_Schedule) da_nil))) (by intro _; rfl))) (dw_or1 (dt_cmp op_notBl opd_notB (de_cmp (op_neO.or (op_neD (unitsOk hr))) (opd_neO TQ (hr.mono (by decide))) (ix_ (vv 2) (vv 8)) (vv 9) (nomark _)) de_bl (nomark _))))) (dss_one (ds_ret de_bl)) dss_nil)))))
  (dss_cons (ds_set nd rfl (by first | exact .inl rfl | exact .inr rfl) (de_callN C__law_of (hr.mono (by decide)) tk (by rfl) (da_cons (vv 1) (da_cons (de_lst (da_cons de_int (da_cons de_int (da_cons de_non (da_cons de_bl (da_cons de_str (da_cons (de_op op_sub opd_sub de_int de_int) da_nil))))))) da_nil))))
  (dss_cons (ds_set nd rfl (by first | exact .inl rfl | exact .inr rfl) (de_callN C__law_of (hr.mono (by decide)) tk (by rfl) (da_cons (vv 1) (da_cons (de_lst (da_cons de_str (da_cons de_str (da_cons de_str (da_cons de_str (da_cons de_str (da_cons de_str (da_cons de_str (da_cons de_str (da_cons de_str (da_cons de_non (da_cons de_int (da_cons (de_tup (da_cons de_str da_nil)) (da_cons de_str (da_cons de_str da_nil))))))))))))))) da_nil))))
  (dss_cons (ds_set nd rfl (by first | exact .inl rfl | exact .inr rfl) (de_lst (da_cons (de_lamV (k := 0) (pl := ("law", none)) (L := lam_0) TB rfl (lamF_by (by kernel_rfl)) rfl rfl rfl rfl) (da_cons (de_lamV1 (k := 0) (pl := ("law", none)) (L := lam_1) TB rfl (lamF_by (by kernel_rfl)) rfl rfl rfl rfl rfl) (da_cons (de_lamV1 (k := 0) (pl := ("law", none)) (L := lam_2) TB rfl (lamF_by (by kernel_rfl)) rfl rfl rfl rfl rfl) (da_cons (de_lamV1 (k := 0) (pl := ("law", none)) (L := lam_3) TB rfl (lamF_by (by kernel_rfl)) rfl rfl rfl rfl rfl) da_nil))))))
  (dss_cons (ds_set nd rfl (by first | exact .inl rfl | exact .inr rfl) (de_lst (da_cons (de_tup (da_cons de_str (da_cons (vv 10) da_nil))) (da_cons (de_tup (da_cons de_str (da_cons (vv 10) da_nil))) (da_cons (de_tup (da_cons de_str (da_cons de_int da_nil))) (da_cons (de_tup (da_cons de_str (da_cons (vv 11) da_nil))) da_nil))))))
  (dss_cons (ds_set nd rfl (by first | exact .inl rfl | exact .inr rfl) (de_op op_addA opd_add (de_lc (own := [("_law_one", 14)]) rfl nd (di_seq (vv 2)) (blkOk_by (by kernel_rfl)) gd_name (by decide) (fun _ _ _ _ _ => (pg_name (i := 14) nd rfl (by first | exact .inl rfl | exact .inr rfl) (by first | exact .inl rfl | exact .inr rfl))) (fun _ _ _ _ _ _ => dts_nil) (fun _ _ _ _ _ _ => (isiO_ G.iso G.f_isinstance (da_cons (vv 14) (da_cons (g_cls G.m_Schedule) da_nil))))) (de_lst (da_cons (isiO_ G.iso G.f_isinstance (da_cons (ix_ (vv 2) de_int) (da_cons (g_cls G.m_Rounds) da_nil))) (da_cons (isiO_ G.iso G.f_isinstance (da_cons (ix_ (vv 2) de_int) (da_cons (g_cls G.m_Now) da_nil))) da_nil)))))
  (dss_one (ds_ret (de_and (de_callN C__law_like (hr.mono (by decide)) tk (by rfl) (da_cons (de_callZ C__law_whys rfl (hr.mono (by decide)) rfl (fun _ _ _ => rfl) (vv 12)) (da_cons (vv 6) da_nil))) (de_one (de_cmp (op_eqD (unitsOk hr)) opd_eq (vv 13) (de_op op_addA opd_add (de_op op_mulA opd_mul (de_lst (da_cons de_bl da_nil)) de_int) (de_lst (da_cons de_bl (da_cons de_bl da_nil)))) (nomark _)))))))))))))))))))))))))
end
abbrev qs : List ((Str × Option Str) × Str) := [(("law", none), "law.<locals>.<lambda>")]
/-- what the law comes down to -/
def Pure : Prop := ∀ ns : List Int, ns.length ≤ 63 → ∀ cells, ∃ μ : Mu, m_law cells [.scr (ns.map D.int)] (qs.map fun z => MObj.tab z.1 z.2) = some (.val (.bl true), μ)
/-! ### the head -/
def dd__law_source : He.DefD := ⟨("_law_source", none), "_law_source", "_law_source", defArgs s__law_source, defBody s__law_source, defScope s__law_source, [], []⟩
def dd__law_draw : He.DefD := ⟨("_law_draw", none), "_law_draw", "_law_draw", defArgs s__law_draw, defBody s__law_draw, defScope s__law_draw, [], []⟩
def dd__law_of : He.DefD := ⟨("_law_of", none), "_law_of", "_law_of", defArgs s__law_of, defBody s__law_of, defScope s__law_of, [], []⟩
def dd_is_integer : He.DefD := ⟨("is_integer", none), "is_integer", "is_integer", defArgs s_is_integer, defBody s_is_integer, defScope s_is_integer, [], []⟩
def dd_is_within : He.DefD := ⟨("is_within", none), "is_within", "is_within", defArgs s_is_within, defBody s_is_within, defScope s_is_within, [], []⟩
def dd_Late___init__ : He.DefD := ⟨("Late", some "__init__"), "__init__", "Late.__init__", defArgs s_Late___init__, defBody s_Late___init__, defScope s_Late___init__, [], []⟩
def dd_Rounds___init__ : He.DefD := ⟨("Rounds", some "__init__"), "__init__", "Rounds.__init__", defArgs s_Rounds___init__, defBody s_Rounds___init__, defScope s_Rounds___init__, [], []⟩
def dd__law_like : He.DefD := ⟨("_law_like", none), "_law_like", "_law_like", defArgs s__law_like, defBody s__law_like, defScope s__law_like, [], []⟩
def dd_Schedule___repr__ : He.DefD := ⟨("Schedule", some "__repr__"), "__repr__", "Schedule.__repr__", defArgs s_Schedule___repr__, defBody s_Schedule___repr__, defScope s_Schedule___repr__, [], []⟩
def dd_Schedule_reported : He.DefD := ⟨("Schedule", some "reported"), "reported", "Schedule.reported", defArgs s_Schedule_reported, defBody s_Schedule_reported, defScope s_Schedule_reported, [], []⟩
def dd_Now_reported : He.DefD := ⟨("Now", some "reported"), "reported", "Now.reported", defArgs s_Now_reported, defBody s_Now_reported, defScope s_Now_reported, [], []⟩
def dd_Late_reported : He.DefD := ⟨("Late", some "reported"), "reported", "Late.reported", defArgs s_Late_reported, defBody s_Late_reported, defScope s_Late_reported, [], []⟩
def dd_Rounds_reported : He.DefD := ⟨("Rounds", some "reported"), "reported", "Rounds.reported", defArgs s_Rounds_reported, defBody s_Rounds_reported, defScope s_Rounds_reported, [], []⟩
def dd_Schedule___eq__ : He.DefD := ⟨("Schedule", some "__eq__"), "__eq__", "Schedule.__eq__", defArgs s_Schedule___eq__, defBody s_Schedule___eq__, defScope s_Schedule___eq__, [], []⟩
def dd__law_field : He.DefD := ⟨("_law_field", none), "_law_field", "_law_field", defArgs s__law_field, defBody s__law_field, defScope s__law_field, [], []⟩
def dd__law_why : He.DefD := ⟨("_law_why", none), "_law_why", "_law_why", defArgs s__law_why, defBody s__law_why, defScope s__law_why, [], []⟩
def dd__law_whys : He.DefD := ⟨("_law_whys", none), "_law_whys", "_law_whys", defArgs s__law_whys, defBody s__law_whys, defScope s__law_whys, [], []⟩
def dd_Schedule_can_leave : He.DefD := ⟨("Schedule", some "can_leave"), "can_leave", "Schedule.can_leave", defArgs s_Schedule_can_leave, defBody s_Schedule_can_leave, defScope s_Schedule_can_leave, [], []⟩
def dd_Now_can_leave : He.DefD := ⟨("Now", some "can_leave"), "can_leave", "Now.can_leave", defArgs s_Now_can_leave, defBody s_Now_can_leave, defScope s_Now_can_leave, [], []⟩
def dd_Late_can_leave : He.DefD := ⟨("Late", some "can_leave"), "can_leave", "Late.can_leave", defArgs s_Late_can_leave, defBody s_Late_can_leave, defScope s_Late_can_leave, [], []⟩
def dd_Rounds_can_leave : He.DefD := ⟨("Rounds", some "can_leave"), "can_leave", "Rounds.can_leave", defArgs s_Rounds_can_leave, defBody s_Rounds_can_leave, defScope s_Rounds_can_leave, [], []⟩
def dd_law : He.DefD := ⟨("law", none), "law", "law", defArgs s_law, defBody s_law, defScope s_law, [], []⟩
def dz_Schedule_text : He5.DefA := ⟨propAt "Schedule" "text", "text", "Schedule.text", defArgs s_Schedule_text, defBody s_Schedule_text, defScope s_Schedule_text, [], []⟩
def dz_Now_text : He5.DefA := ⟨propAt "Now" "text", "text", "Now.text", defArgs s_Now_text, defBody s_Now_text, defScope s_Now_text, [], []⟩
def dz_Late_text : He5.DefA := ⟨propAt "Late" "text", "text", "Late.text", defArgs s_Late_text, defBody s_Late_text, defScope s_Late_text, [], []⟩
def dz_Rounds_text : He5.DefA := ⟨propAt "Rounds" "text", "text", "Rounds.text", defArgs s_Rounds_text, defBody s_Rounds_text, defScope s_Rounds_text, [], []⟩
def dz_Never_text : He5.DefA := ⟨propAt "Never" "text", "text", "Never.text", defArgs s_Never_text, defBody s_Never_text, defScope s_Never_text, [], []⟩
def dz_Schedule_read : He5.DefA := ⟨statAt "Schedule" "read", "read", "Schedule.read", defArgs s_Schedule_read, defBody s_Schedule_read, defScope s_Schedule_read, [], []⟩
def dz_Late_span : He5.DefA := ⟨propAt "Late" "span", "span", "Late.span", defArgs s_Late_span, defBody s_Late_span, defScope s_Late_span, [], []⟩
def dz_Rounds_span : He5.DefA := ⟨propAt "Rounds" "span", "span", "Rounds.span", defArgs s_Rounds_span, defBody s_Rounds_span, defScope s_Rounds_span, [], []⟩
def hfn0 : List He.DefD := [dd__law_source, dd__law_draw, dd__law_of, dd_is_integer, dd_is_within, dd_Late___init__, dd_Rounds___init__, dd__law_like, dd_Schedule___repr__, dd_Schedule_reported, dd_Now_reported, dd_Late_reported]
def hfn1 : List He.DefD := [dd_Rounds_reported, dd_Schedule___eq__, dd__law_field, dd__law_why, dd__law_whys, dd_Schedule_can_leave, dd_Now_can_leave, dd_Late_can_leave, dd_Rounds_can_leave, dd_law]
abbrev hfn : List He.DefD := hfn0 ++ hfn1
def hfz0 : List He5.DefA := [dz_Schedule_text, dz_Now_text, dz_Late_text, dz_Rounds_text, dz_Never_text, dz_Schedule_read, dz_Late_span, dz_Rounds_span]
abbrev hfz : List He5.DefA := hfz0
def hfa0 : List He.Fa := [.glo "_law_source", .glo "_law_draw", .glo "_law_of", .glo "is_integer", .glo "is_within", .glo "_law_like", .glo "_law_field", .glo "_law_why", .glo "_law_whys", .glo "law", .glo "CallError", .glo "Missing"]
def hfa1 : List He.Fa := [.glo "NothingLeft", .glo "Schedule", .glo "Now", .glo "Late", .glo "Rounds", .glo "Never", .glo "InvalidNumber", .glo "InvalidSchedule", .free "all", .free "bool", .free "int", .free "isinstance"]
def hfa2 : List He.Fa := [.free "len", .free "list", .free "max", .free "range", .free "repr", .free "str", .free "super", .free "tuple", .free "zip"]
abbrev hfa : List He.Fa := hfa0 ++ hfa1 ++ hfa2
def cd_InvalidNumber : ClD := ⟨"InvalidNumber", "__init__", "__init__", "InvalidNumber.__init__", defArgs i_InvalidNumber, defBody i_InvalidNumber, defScope i_InvalidNumber⟩
def cd_InvalidSchedule : ClD := ⟨"InvalidSchedule", "__init__", "__init__", "InvalidSchedule.__init__", defArgs i_InvalidSchedule, defBody i_InvalidSchedule, defScope i_InvalidSchedule⟩
def hfc0 : List ClD := [cd_InvalidNumber, cd_InvalidSchedule]
abbrev hfc : List ClD := hfc0
def hbe : List (List (PySem.W.Frag → Bool)) := [errBs .ve "InvalidNumber" "given", errBs .ve "InvalidSchedule" "given"]
def hbx0 : List (PySem.W.Frag → Bool) := [catB "InvalidNumber" ["CallError", "Missing", "NothingLeft"], catB "InvalidSchedule" ["CallError", "Missing", "NothingLeft"], isiOB ocs oxs oanc, insIB "Schedule", insIB "Now", insIB "Late", insIB "Rounds", insIB "Never", noatsB fd_own_calls "own_calls", propB "Schedule" "text" "Schedule", propB "Now" "text" "Now", propB "Late" "text" "Late"]
def hbx1 : List (PySem.W.Frag → Bool) := [propB "Rounds" "text" "Rounds", propB "Never" "text" "Never", samB "Schedule" "Schedule" "__eq__", eqCB "Schedule", samB "Now" "Schedule" "__eq__", eqCB "Now", samB "Late" "Schedule" "__eq__", eqCB "Late", samB "Rounds" "Schedule" "__eq__", eqCB "Rounds", samB "Never" "Schedule" "__eq__", eqCB "Never"]
def hbx2 : List (PySem.W.Frag → Bool) := [samB "Schedule" "Schedule" "can_leave", samB "Now" "Now" "can_leave", samB "Late" "Late" "can_leave", samB "Rounds" "Rounds" "can_leave", samB "Never" "Schedule" "can_leave", propB "Late" "span" "Late", propB "Rounds" "span" "Rounds", samB "Schedule" "Schedule" "reported", samB "Now" "Now" "reported", samB "Late" "Late" "reported", samB "Rounds" "Rounds" "reported", samB "Never" "Schedule" "reported"]
def hbx3 : List (PySem.W.Frag → Bool) := [samB "Schedule" "Schedule" "__repr__", samB "Now" "Schedule" "__repr__", samB "Late" "Schedule" "__repr__", samB "Rounds" "Schedule" "__repr__", samB "Never" "Schedule" "__repr__", statB "Schedule" "read", fun K => (He.Fa.mkr "Rounds").ok K, fun K => (He.Fa.mkr "Late").ok K, plB "Never", plB "Now", plB "Schedule", eqPB okp]
abbrev hbx : List (PySem.W.Frag → Bool) := hbx0 ++ hbx1 ++ hbx2 ++ hbx3
abbrev hbs : List (PySem.W.Frag → Bool) := hbe.flatten ++ hbx
def htf : List He.Defn := [("law", none)]
def hnm0 : List PySem.Str := ["CallError", "Missing", "InvalidNumber", "InvalidSchedule", "NothingLeft", "is_integer", "is_within", "Schedule", "Now", "Late", "Rounds", "Never"]
def hnm1 : List PySem.Str := ["_law_source", "_law_draw", "_law_of", "_law_like", "_law_field", "_law_why", "_law_whys"]
abbrev hnm : List PySem.Str := hnm0 ++ hnm1
abbrev R : PySem.W.OpenRow := PySem.W.OpenLaw.row PySem.Challenge.rw_mendcalls_k21_schedules_told
abbrev P0 : Program := (PySem.Challenge.rw_mendcalls_k21_schedules_told).prog
abbrev hfile : Str := "/claim/cut.py"
theorem file0 : P0.main.file = hfile := by rfl
abbrev hk : PySem.W.Hook := hookZ hfile 6 hfa hfn hfc hbs htf hfz
def ob (s : PySem.W.SharedT) : AlZ := obsZ hfile 6 hfa hfn hfc hbs htf hfz (HandSHeadRun.getT s)
theorem ob_eq (s : PySem.W.SharedT) : ob s = hk.obs s.abs := obsZ_eq (HandSHeadRun.getT_eq s)
theorem run (w : World) : HandSHeadRun.RunEq R (PySem.W.view R.prog [23]) hk ob 9000 hnm w := by
  intro os
  kernel_rfl
section
variable {K : PySem.W.Frag} {h : Heap} {mg : Str → Option Value} (X : K.In h) (G : h.Ns mainGlobals mg) (c : SaysZ hfile hfa hfn hfc hbs htf hfz h K)
include X G c
theorem g__law_source : mg "_law_source" = some (.ref (He.ga K "_law_source")) := He.glo_ok X G (c.y.b.says.plain.fact 0 (f := .glo "_law_source") rfl)
theorem g__law_draw : mg "_law_draw" = some (.ref (He.ga K "_law_draw")) := He.glo_ok X G (c.y.b.says.plain.fact 1 (f := .glo "_law_draw") rfl)
theorem g__law_of : mg "_law_of" = some (.ref (He.ga K "_law_of")) := He.glo_ok X G (c.y.b.says.plain.fact 2 (f := .glo "_law_of") rfl)
theorem g_is_integer : mg "is_integer" = some (.ref (He.ga K "is_integer")) := He.glo_ok X G (c.y.b.says.plain.fact 3 (f := .glo "is_integer") rfl)
theorem g_is_within : mg "is_within" = some (.ref (He.ga K "is_within")) := He.glo_ok X G (c.y.b.says.plain.fact 4 (f := .glo "is_within") rfl)
theorem g__law_like : mg "_law_like" = some (.ref (He.ga K "_law_like")) := He.glo_ok X G (c.y.b.says.plain.fact 5 (f := .glo "_law_like") rfl)
theorem g__law_field : mg "_law_field" = some (.ref (He.ga K "_law_field")) := He.glo_ok X G (c.y.b.says.plain.fact 6 (f := .glo "_law_field") rfl)
theorem g__law_why : mg "_law_why" = some (.ref (He.ga K "_law_why")) := He.glo_ok X G (c.y.b.says.plain.fact 7 (f := .glo "_law_why") rfl)
theorem g__law_whys : mg "_law_whys" = some (.ref (He.ga K "_law_whys")) := He.glo_ok X G (c.y.b.says.plain.fact 8 (f := .glo "_law_whys") rfl)
theorem g_law : mg "law" = some (.ref (He.ga K "law")) := He.glo_ok X G (c.y.b.says.plain.fact 9 (f := .glo "law") rfl)
theorem g_CallError : mg "CallError" = some (.ref (He.ga K "CallError")) := He.glo_ok X G (c.y.b.says.plain.fact 10 (f := .glo "CallError") rfl)
theorem g_Missing : mg "Missing" = some (.ref (He.ga K "Missing")) := He.glo_ok X G (c.y.b.says.plain.fact 11 (f := .glo "Missing") rfl)
theorem g_NothingLeft : mg "NothingLeft" = some (.ref (He.ga K "NothingLeft")) := He.glo_ok X G (c.y.b.says.plain.fact 12 (f := .glo "NothingLeft") rfl)
theorem g_Schedule : mg "Schedule" = some (.ref (He.ga K "Schedule")) := He.glo_ok X G (c.y.b.says.plain.fact 13 (f := .glo "Schedule") rfl)
theorem g_Now : mg "Now" = some (.ref (He.ga K "Now")) := He.glo_ok X G (c.y.b.says.plain.fact 14 (f := .glo "Now") rfl)
theorem g_Late : mg "Late" = some (.ref (He.ga K "Late")) := He.glo_ok X G (c.y.b.says.plain.fact 15 (f := .glo "Late") rfl)
theorem g_Rounds : mg "Rounds" = some (.ref (He.ga K "Rounds")) := He.glo_ok X G (c.y.b.says.plain.fact 16 (f := .glo "Rounds") rfl)
theorem g_Never : mg "Never" = some (.ref (He.ga K "Never")) := He.glo_ok X G (c.y.b.says.plain.fact 17 (f := .glo "Never") rfl)
theorem g_InvalidNumber : mg "InvalidNumber" = some (.ref (He.ga K "InvalidNumber")) := He.glo_ok X G (c.y.b.says.plain.fact 18 (f := .glo "InvalidNumber") rfl)
theorem g_InvalidSchedule : mg "InvalidSchedule" = some (.ref (He.ga K "InvalidSchedule")) := He.glo_ok X G (c.y.b.says.plain.fact 19 (f := .glo "InvalidSchedule") rfl)
omit X G in
theorem e_InvalidNumber : ErrOk K .ve "InvalidNumber" "given" := errOk_of fun b hb => c.y.b.chkM (List.mem_append_left _ (List.mem_flatten.mpr ⟨errBs .ve "InvalidNumber" "given", List.mem_of_getElem? (i := 0) rfl, hb⟩))
omit X G in
theorem e_InvalidSchedule : ErrOk K .ve "InvalidSchedule" "given" := errOk_of fun b hb => c.y.b.chkM (List.mem_append_left _ (List.mem_flatten.mpr ⟨errBs .ve "InvalidSchedule" "given", List.mem_of_getElem? (i := 1) rfl, hb⟩))
omit X G in
theorem ii_Schedule : InsI K (He.ga K "Schedule") := insIB_ok (c.y.b.chkM (b := insIB "Schedule") (List.mem_append_right _ (List.mem_of_getElem? (i := 3) rfl)))
omit X G in
theorem ii_Now : InsI K (He.ga K "Now") := insIB_ok (c.y.b.chkM (b := insIB "Now") (List.mem_append_right _ (List.mem_of_getElem? (i := 4) rfl)))
omit X G in
theorem ii_Late : InsI K (He.ga K "Late") := insIB_ok (c.y.b.chkM (b := insIB "Late") (List.mem_append_right _ (List.mem_of_getElem? (i := 5) rfl)))
omit X G in
theorem ii_Rounds : InsI K (He.ga K "Rounds") := insIB_ok (c.y.b.chkM (b := insIB "Rounds") (List.mem_append_right _ (List.mem_of_getElem? (i := 6) rfl)))
omit X G in
theorem ii_Never : InsI K (He.ga K "Never") := insIB_ok (c.y.b.chkM (b := insIB "Never") (List.mem_append_right _ (List.mem_of_getElem? (i := 7) rfl)))
theorem gs_of : GS K mg where
  f_all := He.free_ok X G (c.y.b.says.plain.fact 20 (f := .free "all") rfl)
  f_bool := He.free_ok X G (c.y.b.says.plain.fact 21 (f := .free "bool") rfl)
  f_int := He.free_ok X G (c.y.b.says.plain.fact 22 (f := .free "int") rfl)
  f_isinstance := He.free_ok X G (c.y.b.says.plain.fact 23 (f := .free "isinstance") rfl)
  f_len := He.free_ok X G (c.y.b.says.plain.fact 24 (f := .free "len") rfl)
  f_list := He.free_ok X G (c.y.b.says.plain.fact 25 (f := .free "list") rfl)
  f_max := He.free_ok X G (c.y.b.says.plain.fact 26 (f := .free "max") rfl)
  f_range := He.free_ok X G (c.y.b.says.plain.fact 27 (f := .free "range") rfl)
  f_repr := He.free_ok X G (c.y.b.says.plain.fact 28 (f := .free "repr") rfl)
  f_str := He.free_ok X G (c.y.b.says.plain.fact 29 (f := .free "str") rfl)
  f_super := He.free_ok X G (c.y.b.says.plain.fact 30 (f := .free "super") rfl)
  f_tuple := He.free_ok X G (c.y.b.says.plain.fact 31 (f := .free "tuple") rfl)
  f_zip := He.free_ok X G (c.y.b.says.plain.fact 32 (f := .free "zip") rfl)
  d__law_source := by
    obtain ⟨fd, F⟩ := c.y.b.says.plain.def_ 0 (d := dd__law_source) rfl
    exact ⟨_, fd, g__law_source X G c, F⟩
  d__law_draw := by
    obtain ⟨fd, F⟩ := c.y.b.says.plain.def_ 1 (d := dd__law_draw) rfl
    exact ⟨_, fd, g__law_draw X G c, F⟩
  d__law_of := by
    obtain ⟨fd, F⟩ := c.y.b.says.plain.def_ 2 (d := dd__law_of) rfl
    exact ⟨_, fd, g__law_of X G c, F⟩
  d_is_integer := by
    obtain ⟨fd, F⟩ := c.y.b.says.plain.def_ 3 (d := dd_is_integer) rfl
    exact ⟨_, fd, g_is_integer X G c, F⟩
  d_is_within := by
    obtain ⟨fd, F⟩ := c.y.b.says.plain.def_ 4 (d := dd_is_within) rfl
    exact ⟨_, fd, g_is_within X G c, F⟩
  d_Late___init__ := c.y.b.says.plain.def_ 5 (d := dd_Late___init__) rfl
  d_Rounds___init__ := c.y.b.says.plain.def_ 6 (d := dd_Rounds___init__) rfl
  d__law_like := by
    obtain ⟨fd, F⟩ := c.y.b.says.plain.def_ 7 (d := dd__law_like) rfl
    exact ⟨_, fd, g__law_like X G c, F⟩
  d_Schedule_text := c.def_ 0 (d := dz_Schedule_text) rfl
  d_Now_text := c.def_ 1 (d := dz_Now_text) rfl
  d_Late_text := c.def_ 2 (d := dz_Late_text) rfl
  d_Rounds_text := c.def_ 3 (d := dz_Rounds_text) rfl
  d_Never_text := c.def_ 4 (d := dz_Never_text) rfl
  d_Schedule___repr__ := c.y.b.says.plain.def_ 8 (d := dd_Schedule___repr__) rfl
  d_Schedule_reported := c.y.b.says.plain.def_ 9 (d := dd_Schedule_reported) rfl
  d_Now_reported := c.y.b.says.plain.def_ 10 (d := dd_Now_reported) rfl
  d_Late_reported := c.y.b.says.plain.def_ 11 (d := dd_Late_reported) rfl
  d_Rounds_reported := c.y.b.says.plain.def_ 12 (d := dd_Rounds_reported) rfl
  d_Schedule_read := c.def_ 5 (d := dz_Schedule_read) rfl
  d_Schedule___eq__ := c.y.b.says.plain.def_ 13 (d := dd_Schedule___eq__) rfl
  d__law_field := by
    obtain ⟨fd, F⟩ := c.y.b.says.plain.def_ 14 (d := dd__law_field) rfl
    exact ⟨_, fd, g__law_field X G c, F⟩
  d__law_why := by
    obtain ⟨fd, F⟩ := c.y.b.says.plain.def_ 15 (d := dd__law_why) rfl
    exact ⟨_, fd, g__law_why X G c, F⟩
  d__law_whys := by
    obtain ⟨fd, F⟩ := c.y.b.says.plain.def_ 16 (d := dd__law_whys) rfl
    exact ⟨_, fd, g__law_whys X G c, F⟩
  d_Late_span := c.def_ 6 (d := dz_Late_span) rfl
  d_Rounds_span := c.def_ 7 (d := dz_Rounds_span) rfl
  d_Schedule_can_leave := c.y.b.says.plain.def_ 17 (d := dd_Schedule_can_leave) rfl
  d_Now_can_leave := c.y.b.says.plain.def_ 18 (d := dd_Now_can_leave) rfl
  d_Late_can_leave := c.y.b.says.plain.def_ 19 (d := dd_Late_can_leave) rfl
  d_Rounds_can_leave := c.y.b.says.plain.def_ 20 (d := dd_Rounds_can_leave) rfl
  m_CallError := g_CallError X G c
  m_Missing := g_Missing X G c
  m_NothingLeft := g_NothingLeft X G c
  m_Schedule := g_Schedule X G c
  m_Now := g_Now X G c
  m_Late := g_Late X G c
  m_Rounds := g_Rounds X G c
  m_Never := g_Never X G c
  i_Schedule := ii_Schedule c
  i_Now := ii_Now c
  i_Late := ii_Late c
  i_Rounds := ii_Rounds c
  i_Never := ii_Never c
  fd_own_calls := clsF_of (by
    intro x hx
    have e : Lw_k21.fd_own_calls = (["Late", "Rounds"] : List Str) := by rfl
    rw [e] at hx
    simp only [List.mem_cons, List.not_mem_nil, or_false] at hx
    rcases hx with rfl | rfl
    · exact ⟨g_Late X G c, (ii_Late c).cl⟩
    · exact ⟨g_Rounds X G c, (ii_Rounds c).cl⟩
    ) (c.y.b.chkM (b := noatsB fd_own_calls "own_calls") (List.mem_append_right _ (List.mem_of_getElem? (i := 8) rfl)))
  iso := isiOB_ok (c.y.b.chkM (b := isiOB ocs oxs oanc) (List.mem_append_right _ (List.mem_of_getElem? (i := 2) rfl))) (by
    intro x hx
    have e : ocs = (["Schedule", "Now", "Late", "Rounds", "Never"] : List Str) := by rfl
    rw [e] at hx
    simp only [List.mem_cons, List.not_mem_nil, or_false] at hx
    rcases hx with rfl | rfl | rfl | rfl | rfl
    · exact g_Schedule X G c
    · exact g_Now X G c
    · exact g_Late X G c
    · exact g_Rounds X G c
    · exact g_Never X G c
    ) (by
    intro x hx
    have e : oxs = (["Schedule", "Now", "Rounds"] : List Str) := by rfl
    rw [e] at hx
    simp only [List.mem_cons, List.not_mem_nil, or_false] at hx
    rcases hx with rfl | rfl | rfl
    · exact g_Schedule X G c
    · exact g_Now X G c
    · exact g_Rounds X G c
    )
  pr_Schedule_text := (c.y.b.chkM (b := propB "Schedule" "text" "Schedule") (List.mem_append_right _ (List.mem_of_getElem? (i := 9) rfl)))
  pr_Now_text := (c.y.b.chkM (b := propB "Now" "text" "Now") (List.mem_append_right _ (List.mem_of_getElem? (i := 10) rfl)))
  pr_Late_text := (c.y.b.chkM (b := propB "Late" "text" "Late") (List.mem_append_right _ (List.mem_of_getElem? (i := 11) rfl)))
  pr_Rounds_text := (c.y.b.chkM (b := propB "Rounds" "text" "Rounds") (List.mem_append_right _ (List.mem_of_getElem? (i := 12) rfl)))
  pr_Never_text := (c.y.b.chkM (b := propB "Never" "text" "Never") (List.mem_append_right _ (List.mem_of_getElem? (i := 13) rfl)))
  sm_Schedule___eq__ := (c.y.b.chkM (b := samB "Schedule" "Schedule" "__eq__") (List.mem_append_right _ (List.mem_of_getElem? (i := 14) rfl)))
  eqc_Schedule := (c.y.b.chkM (b := eqCB "Schedule") (List.mem_append_right _ (List.mem_of_getElem? (i := 15) rfl)))
  sm_Now___eq__ := (c.y.b.chkM (b := samB "Now" "Schedule" "__eq__") (List.mem_append_right _ (List.mem_of_getElem? (i := 16) rfl)))
  eqc_Now := (c.y.b.chkM (b := eqCB "Now") (List.mem_append_right _ (List.mem_of_getElem? (i := 17) rfl)))
  sm_Late___eq__ := (c.y.b.chkM (b := samB "Late" "Schedule" "__eq__") (List.mem_append_right _ (List.mem_of_getElem? (i := 18) rfl)))
  eqc_Late := (c.y.b.chkM (b := eqCB "Late") (List.mem_append_right _ (List.mem_of_getElem? (i := 19) rfl)))
  sm_Rounds___eq__ := (c.y.b.chkM (b := samB "Rounds" "Schedule" "__eq__") (List.mem_append_right _ (List.mem_of_getElem? (i := 20) rfl)))
  eqc_Rounds := (c.y.b.chkM (b := eqCB "Rounds") (List.mem_append_right _ (List.mem_of_getElem? (i := 21) rfl)))
  sm_Never___eq__ := (c.y.b.chkM (b := samB "Never" "Schedule" "__eq__") (List.mem_append_right _ (List.mem_of_getElem? (i := 22) rfl)))
  eqc_Never := (c.y.b.chkM (b := eqCB "Never") (List.mem_append_right _ (List.mem_of_getElem? (i := 23) rfl)))
  sm_Schedule_can_leave := (c.y.b.chkM (b := samB "Schedule" "Schedule" "can_leave") (List.mem_append_right _ (List.mem_of_getElem? (i := 24) rfl)))
  sm_Now_can_leave := (c.y.b.chkM (b := samB "Now" "Now" "can_leave") (List.mem_append_right _ (List.mem_of_getElem? (i := 25) rfl)))
  sm_Late_can_leave := (c.y.b.chkM (b := samB "Late" "Late" "can_leave") (List.mem_append_right _ (List.mem_of_getElem? (i := 26) rfl)))
  sm_Rounds_can_leave := (c.y.b.chkM (b := samB "Rounds" "Rounds" "can_leave") (List.mem_append_right _ (List.mem_of_getElem? (i := 27) rfl)))
  sm_Never_can_leave := (c.y.b.chkM (b := samB "Never" "Schedule" "can_leave") (List.mem_append_right _ (List.mem_of_getElem? (i := 28) rfl)))
  pr_Late_span := (c.y.b.chkM (b := propB "Late" "span" "Late") (List.mem_append_right _ (List.mem_of_getElem? (i := 29) rfl)))
  pr_Rounds_span := (c.y.b.chkM (b := propB "Rounds" "span" "Rounds") (List.mem_append_right _ (List.mem_of_getElem? (i := 30) rfl)))
  sm_Schedule_reported := (c.y.b.chkM (b := samB "Schedule" "Schedule" "reported") (List.mem_append_right _ (List.mem_of_getElem? (i := 31) rfl)))
  sm_Now_reported := (c.y.b.chkM (b := samB "Now" "Now" "reported") (List.mem_append_right _ (List.mem_of_getElem? (i := 32) rfl)))
  sm_Late_reported := (c.y.b.chkM (b := samB "Late" "Late" "reported") (List.mem_append_right _ (List.mem_of_getElem? (i := 33) rfl)))
  sm_Rounds_reported := (c.y.b.chkM (b := samB "Rounds" "Rounds" "reported") (List.mem_append_right _ (List.mem_of_getElem? (i := 34) rfl)))
  sm_Never_reported := (c.y.b.chkM (b := samB "Never" "Schedule" "reported") (List.mem_append_right _ (List.mem_of_getElem? (i := 35) rfl)))
  sm_Schedule___repr__ := (c.y.b.chkM (b := samB "Schedule" "Schedule" "__repr__") (List.mem_append_right _ (List.mem_of_getElem? (i := 36) rfl)))
  sm_Now___repr__ := (c.y.b.chkM (b := samB "Now" "Schedule" "__repr__") (List.mem_append_right _ (List.mem_of_getElem? (i := 37) rfl)))
  sm_Late___repr__ := (c.y.b.chkM (b := samB "Late" "Schedule" "__repr__") (List.mem_append_right _ (List.mem_of_getElem? (i := 38) rfl)))
  sm_Rounds___repr__ := (c.y.b.chkM (b := samB "Rounds" "Schedule" "__repr__") (List.mem_append_right _ (List.mem_of_getElem? (i := 39) rfl)))
  sm_Never___repr__ := (c.y.b.chkM (b := samB "Never" "Schedule" "__repr__") (List.mem_append_right _ (List.mem_of_getElem? (i := 40) rfl)))
  st_Schedule_read := (c.y.b.chkM (b := statB "Schedule" "read") (List.mem_append_right _ (List.mem_of_getElem? (i := 41) rfl)))
  mk_Rounds := (c.y.b.chkM (b := fun K => (He.Fa.mkr "Rounds").ok K) (List.mem_append_right _ (List.mem_of_getElem? (i := 42) rfl)))
  mk_Late := (c.y.b.chkM (b := fun K => (He.Fa.mkr "Late").ok K) (List.mem_append_right _ (List.mem_of_getElem? (i := 43) rfl)))
  plb_Never := (c.y.b.chkM (b := plB "Never") (List.mem_append_right _ (List.mem_of_getElem? (i := 44) rfl)))
  plb_Now := (c.y.b.chkM (b := plB "Now") (List.mem_append_right _ (List.mem_of_getElem? (i := 45) rfl)))
  plb_Schedule := (c.y.b.chkM (b := plB "Schedule") (List.mem_append_right _ (List.mem_of_getElem? (i := 46) rfl)))
  eqp := (c.y.b.chkM (b := eqPB okp) (List.mem_append_right _ (List.mem_of_getElem? (i := 47) rfl)))
  pl_Never := plB_ok (g_Never X G c) (c.y.b.chkM (b := plB "Never") (List.mem_append_right _ (List.mem_of_getElem? (i := 44) rfl)))
  pl_Now := plB_ok (g_Now X G c) (c.y.b.chkM (b := plB "Now") (List.mem_append_right _ (List.mem_of_getElem? (i := 45) rfl)))
  pl_Schedule := plB_ok (g_Schedule X G c) (c.y.b.chkM (b := plB "Schedule") (List.mem_append_right _ (List.mem_of_getElem? (i := 46) rfl)))
  cat := by
    constructor
    intro x hx
    have e : fc "code" = (["InvalidNumber", "InvalidSchedule"] : List Str) := by rfl
    rw [e] at hx
    simp only [List.mem_cons, List.not_mem_nil, or_false] at hx
    rcases hx with rfl | rfl
    · exact ⟨_, g_InvalidNumber X G c, catB_ok (c.y.b.chkM (List.mem_append_right _ (List.mem_of_getElem? (i := 0) rfl)))⟩
    · exact ⟨_, g_InvalidSchedule X G c, catB_ok (c.y.b.chkM (List.mem_append_right _ (List.mem_of_getElem? (i := 1) rfl)))⟩

  ef := by
    constructor
    · constructor
      intro x hx
      have e : fc "code" = (["InvalidNumber", "InvalidSchedule"] : List Str) := by rfl
      rw [e] at hx
      simp only [List.mem_cons, List.not_mem_nil, or_false] at hx
      rcases hx with rfl | rfl
      · exact ⟨_, g_InvalidNumber X G c, (e_InvalidNumber c).xf, (e_InvalidNumber c).no1⟩
      · exact ⟨_, g_InvalidSchedule X G c, (e_InvalidSchedule c).xf, (e_InvalidSchedule c).no1⟩

    · constructor
      intro x hx
      have e : fc "given" = (["InvalidNumber", "InvalidSchedule"] : List Str) := by rfl
      rw [e] at hx
      simp only [List.mem_cons, List.not_mem_nil, or_false] at hx
      rcases hx with rfl | rfl
      · exact ⟨_, g_InvalidNumber X G c, (e_InvalidNumber c).xf, (e_InvalidNumber c).no2⟩
      · exact ⟨_, g_InvalidSchedule X G c, (e_InvalidSchedule c).xf, (e_InvalidSchedule c).no2⟩

    · constructor
      intro x hx
      have e : fc "at" = ([] : List Str) := by rfl
      rw [e] at hx
      simp only [List.mem_cons, List.not_mem_nil, or_false] at hx

    · constructor
      intro x hx
      have e : fc "name" = ([] : List Str) := by rfl
      rw [e] at hx
      simp only [List.mem_cons, List.not_mem_nil, or_false] at hx

    · constructor
      intro x hx
      have e : fc "most" = ([] : List Str) := by rfl
      rw [e] at hx
      simp only [List.mem_cons, List.not_mem_nil, or_false] at hx

    · constructor
      intro x hx
      have e : fc "cost" = ([] : List Str) := by rfl
      rw [e] at hx
      simp only [List.mem_cons, List.not_mem_nil, or_false] at hx

    · constructor
      intro x hx
      have e : fc "line" = ([] : List Str) := by rfl
      rw [e] at hx
      simp only [List.mem_cons, List.not_mem_nil, or_false] at hx


omit X G c in
theorem sc_InvalidNumber : SupScope ["self", "given"] ["self", "given"] (defScope i_InvalidNumber) := ⟨rfl, rfl, rfl, by decide, rfl, by decide +kernel, by decide +kernel, by decide +kernel, by decide +kernel, by decide +kernel⟩
omit X G c in
theorem sc_InvalidSchedule : SupScope ["self", "given"] ["self", "given"] (defScope i_InvalidSchedule) := ⟨rfl, rfl, rfl, by decide, rfl, by decide +kernel, by decide +kernel, by decide +kernel, by decide +kernel, by decide +kernel⟩
theorem errs_of {w : World} {base : Heap} : Errs P0 w K mg base where
  mk_InvalidNumber := by
    have hs := (gs_of X G c).f_super
    have E := e_InvalidNumber c
    obtain ⟨fd, F⟩ := SaysC.cl (P := P0) (show SaysC P0.main.file hfa hfn hfc K from c.y.b.says) 0 (d := cd_InvalidNumber) rfl
    exact mkErr_of (g_InvalidNumber X G c) E.sup E.no1 E.no2 E.ini.1 E.ini.2 F sc_InvalidNumber rfl rfl hs (by decide +kernel) (fun _ => rfl) (fun _ => rfl) (fun _ => rfl) (by decide) (by decide) (F.binds fun _ _ _ _ _ _ _ us hl => match us, hl with | [_, _], _ => rfl)
  mk_InvalidSchedule := by
    have hs := (gs_of X G c).f_super
    have E := e_InvalidSchedule c
    obtain ⟨fd, F⟩ := SaysC.cl (P := P0) (show SaysC P0.main.file hfa hfn hfc K from c.y.b.says) 1 (d := cd_InvalidSchedule) rfl
    exact mkErr_of (g_InvalidSchedule X G c) E.sup E.no1 E.no2 E.ini.1 E.ini.2 F sc_InvalidSchedule rfl rfl hs (by decide +kernel) (fun _ => rfl) (fun _ => rfl) (fun _ => rfl) (by decide) (by decide) (F.binds fun _ _ _ _ _ _ _ us hl => match us, hl with | [_, _], _ => rfl)
theorem facts {w : World} {f : Addr} (hfa0 : mg ("law" : Str) = some (.ref f)) :
    ∃ fd : FuncData, (∀ (s : Shared) (v : Value), BindsTo s fd ⟨[v], []⟩ [("_law_script", v)]) ∧ ∀ base : Heap, K.In base → base.Ns mainGlobals mg → LamX.TabB base mg (He.cT K ("law", none)).1 (He.cT K ("law", none)).2 → FnOk P0 w K mg base CX0 13 f fd ["_law_script"] (fun vs H Q _ => spL ⟨K, mg⟩ 1 m_law vs H Q fun _ _ _ => False) := by
  obtain ⟨fd, F⟩ := c.y.b.says.plain.def_ 21 (d := dd_law) rfl
  have e := hfa0.symm.trans (g_law X G c)
  cases e
  have b := FunD.bindsA (ps := ["_law_script"]) F fun _ _ _ _ _ _ us hl => match us, hl with | [_], _ => rfl
  exact ⟨fd, fun s v => b s [v] rfl, fun base _ _ TB => ok_calm (ok_all (gs_of X G c) (errs_of X G c) TB F)⟩
end
end Lw_k21
open PySem PySem.W PySem.Calls PyProof.Rows
theorem Lw_k21.holds (hpure : Lw_k21.Pure) : PySem.Challenge.rw_mendcalls_k21_schedules_told.Holds := by
  w_on; o_law
  refine HandSHeadRun.head_any (r := OpenLaw.row PySem.Challenge.rw_mendcalls_k21_schedules_told) (q := view (OpenLaw.row PySem.Challenge.rw_mendcalls_k21_schedules_told).prog [23]) (H := Lw_k21.hk) (ob := Lw_k21.ob) (M := 9000) (loose := Lw_k21.hnm) (d := HandSHeadRun.topDef (OpenLaw.row PySem.Challenge.rw_mendcalls_k21_schedules_told).prog 23) (kwd := []) Lw_k21.ob_eq
    (by kernel_rfl) (fun s => by kernel_rfl) Lw_k21.run (by kernel_rfl) (by kernel_rfl) (by kernel_rfl) (by rfl) (by first | assumption | decide +kernel) (by decide +kernel) ⟨rfl, rfl, rfl, rfl, rfl, by decide +kernel⟩ ?hw ?hc
  case hw => w_witness2
  case hc =>
    refine LamX.walk_ofTsE (l := PySem.Challenge.rw_mendcalls_k21_schedules_told) (n := 63) (k := 13) (x := "_law_script") (CX := fun _ => L2.CX0) rfl (by decide) (by kernel_rfl) ⟨rfl, by decide, by decide⟩ ?F (fun _ _ _ _ _ z => z)
    intro w mg fa h Y G hmg0
    obtain ⟨K, KX, c⟩ := Y
    have hmg : mg ("law" : PySem.Str) = some (.ref fa) := by
      have e : (HandSHeadRun.topDef (OpenLaw.row PySem.Challenge.rw_mendcalls_k21_schedules_told).prog 23).name = ("law" : PySem.Str) := by kernel_rfl
      rw [← e]
      exact hmg0
    obtain ⟨fd, hb, hF⟩ := Lw_k21.facts (w := w) KX G c hmg
    have each : ∀ p ∈ Lw_k21.htf.map (He.cT K), ∃ z ∈ Lw_k21.htf, p = He.cT K z := fun p hp => (let ⟨z, hz, e⟩ := List.mem_map.mp hp; ⟨z, hz, e.symm⟩)
    refine ⟨K, KX, fd, Lw_k21.htf.map (He.cT K), _, fun p hp => ?_, fun p hp => ?_, fun p hp => ?_, hb, fun H a ns hl _ hT hS => ?_, fun base h1 h2 TT => hF base h1 h2 (TT (He.cT K ("law", none)) (List.mem_map.mpr ⟨("law", none), by simp [Lw_k21.htf], rfl⟩))⟩
    · obtain ⟨z, hz, rfl⟩ := each p hp
      exact c.y.empty z hz
    · obtain ⟨z, hz, rfl⟩ := each p hp
      exact c.y.out z hz
    · obtain ⟨z, hz, rfl⟩ := each p hp
      exact PySem.W.codeHd_of_K KX (c.y.hd z hz)
    · have hm := hpure ns hl
      refine Dv.sp_startL (qs := Lw_k21.qs) (ρ := Lw_k21.qs.map fun z => (He.cT K z.1).2) hm hl rfl (by simp) (fun p hp => ?_) hS
      obtain ⟨z, hz, rfl⟩ := List.mem_map.mp hp
      have hz2 : z.1 ∈ Lw_k21.htf := by
        have : Lw_k21.htf = Lw_k21.qs.map (·.1) := rfl
        rw [this]
        exact List.mem_map.mpr ⟨z, hz, rfl⟩
      exact hT (He.cT K z.1) (List.mem_map.mpr ⟨z.1, hz2, rfl⟩)


namespace Lw_k21
open PySem PySem.Spec PyProof.Rows L2 Dv
abbrev tb0 : MObj := .tab ("law", none) "law.<locals>.<lambda>"
abbrev st (s : Src) : Mu := [tb0, .src s]
abbrev M8 : List D := [.ins "Now" [], .ins "Late" [("own_calls", .int 1)], .ins "Late" [("own_calls", .int 2)], .ins "Late" [("own_calls", .int 3)], .ins "Rounds" [("own_calls", .int 2)], .ins "Rounds" [("own_calls", .int 3)], .ins "Never" [], .ins "Schedule" []]
abbrev T8 : List D := [.str "now", .str "late 1", .str "late 2", .str "late 3", .str "rounds 2", .str "rounds 3", .str "never", .str "unknown"]
theorem pa0 (s : Src) (scr : SV) : (dAsg (dLst (dCons (dPlain "Now") (dCons (dCall (fMake "Late" 2 m_Late___init__) (dCons (dC (.int 1)) dNil)) (dCons (dCallK (fMake "Late" 2 m_Late___init__) 0 1 dNil (dCons (dC (.int 2)) dNil)) (dCons (dCall (fMake "Late" 2 m_Late___init__) (dCons (dC (.int 3)) dNil)) (dCons (dCall (fMake "Rounds" 2 m_Rounds___init__) (dCons (dC (.int 2)) dNil)) (dCons (dCallK (fMake "Rounds" 2 m_Rounds___init__) 0 1 dNil (dCons (dC (.int 3)) dNil)) (dCons (dPlain "Never") (dCons (dPlain "Schedule") dNil))))))))) (tName 2)) [scr, .v (.obj 1), .no, .no, .no, .no, .no, .no, .no, .no, .no, .no, .no, .no, .no, .no] (st s) = some (.val .nx, [scr, .v (.obj 1), .v (.lst M8), .no, .no, .no, .no, .no, .no, .no, .no, .no, .no, .no, .no, .no], st s) := by kernel_rfl
theorem pa1 (s : Src) (scr : SV) : (dAsg (dLst (dCons (dC (.str "now")) (dCons (dC (.str "late 1")) (dCons (dC (.str "late 2")) (dCons (dC (.str "late 3")) (dCons (dC (.str "rounds 2")) (dCons (dC (.str "rounds 3")) (dCons (dC (.str "never")) (dCons (dC (.str "unknown")) dNil))))))))) (tName 3)) [scr, .v (.obj 1), .v (.lst M8), .no, .no, .no, .no, .no, .no, .no, .no, .no, .no, .no, .no, .no] (st s) = some (.val .nx, [scr, .v (.obj 1), .v (.lst M8), .v (.lst T8), .no, .no, .no, .no, .no, .no, .no, .no, .no, .no, .no, .no], st s) := by kernel_rfl
theorem pa2 (s : Src) (scr : SV) : (dIfS (dNotT (dTest (dCall (fCall 2 (mLike 12)) (dCons (dLc (dIter (dVar 2)) [14] (tName 14) dYes (dPropT tb_text (dVar 14))) (dCons (dVar 3) dNil))))) (dRet (dC (.bl false))) dSkip) [scr, .v (.obj 1), .v (.lst M8), .v (.lst T8), .no, .no, .no, .no, .no, .no, .no, .no, .no, .no, .no, .no] (st s) = some (.val .nx, [scr, .v (.obj 1), .v (.lst M8), .v (.lst T8), .no, .no, .no, .no, .no, .no, .no, .no, .no, .no, .no, .no], st s) := by kernel_rfl
theorem pa3 (s : Src) (scr : SV) : (dIfS (dTest (dBin fNe (dLc (dIter (dVar 2)) [14] (tName 14) dYes (dCall (fRepr tb_repr) (dCons (dVar 14) dNil))) (dLc (dIter (dVar 3)) [11] (tName 11) dYes (dBin fAdd (dBin fAdd (dC (.str "Schedule(")) (dVar 11)) (dC (.str ")")))))) (dRet (dC (.bl false))) dSkip) [scr, .v (.obj 1), .v (.lst M8), .v (.lst T8), .no, .no, .no, .no, .no, .no, .no, .no, .no, .no, .no, .no] (st s) = some (.val .nx, [scr, .v (.obj 1), .v (.lst M8), .v (.lst T8), .no, .no, .no, .no, .no, .no, .no, .no, .no, .no, .no, .no], st s) := by kernel_rfl
def partB (e : DSt) : DSt := (dSeq (dAsg (dLc (dIter (dVar 2)) [14] (tName 14) dYes (dMethT "reported" 2 tb_reported (dVar 14) (dCons (dVar 4) dNil))) (tName 5))
  (dSeq (dAsg (dLst (dCons (dVar 4) (dCons (dCall fMax2 (dCons (dC (.int 0)) (dCons (dBin fSub (dVar 4) (dC (.int 1))) dNil))) (dCons (dCall fMax2 (dCons (dC (.int 0)) (dCons (dBin fSub (dVar 4) (dC (.int 2))) dNil))) (dCons (dCall fMax2 (dCons (dC (.int 0)) (dCons (dBin fSub (dVar 4) (dC (.int 3))) dNil))) (dCons (dIf (dTest (dBin fEq (dVar 4) (dC (.int 2)))) (dVar 4) (dC (.int 0))) dNil)))))) (tName 6))
  (dSeq (dAsg (dBin fAdd (dVar 6) (dLst (dCons (dIf (dTest (dBin fEq (dVar 4) (dC (.int 3)))) (dVar 4) (dC (.int 0))) (dCons (dC (.int 0)) (dCons (dC (.int 0)) dNil))))) (tName 6))
  (dSeq (dIfS (dOrT (dNotT (dTest (dCall (fCall 2 (mLike 12)) (dCons (dVar 5) (dCons (dVar 6) dNil))))) (dNotT (dTest (dCall (fCall 2 (mLike 12)) (dCons (dLc (dIter (dSl (dVar 2) (dPart (dC (.int 1))) (dPart (dC (.int 6))))) [14] (tName 14) dYes (dPropT tb_span (dVar 14))) (dCons (dLst (dCons (dC (.int 1)) (dCons (dC (.int 2)) (dCons (dC (.int 3)) (dCons (dC (.int 2)) (dCons (dC (.int 3)) dNil)))))) dNil)))))) (dRet (dC (.bl false))) dSkip)
  (dSeq (dAsg (dBin fSub (dVar 4) (dC (.int 1))) (tName 7))
  (dSeq (dAsg (dLst (dCons (dBin fEq (dVar 7) (dC (.int 0))) (dCons (dBin (fCmp fun i j => decide (i ≤ j)) (dVar 7) (dC (.int 1))) (dCons (dBin (fCmp fun i j => decide (i ≤ j)) (dVar 7) (dC (.int 2))) (dCons (dBin (fCmp fun i j => decide (i ≤ j)) (dVar 7) (dC (.int 3))) (dCons (dBin (fCmp fun i j => decide (i < j)) (dVar 7) (dC (.int 2))) (dCons (dBin (fCmp fun i j => decide (i < j)) (dVar 7) (dC (.int 3))) (dCons (dC (.bl true)) (dCons (dC (.bl true)) dNil))))))))) (tName 6))
  (dSeq (dIfS (dNotT (dTest (dCall (fCall 2 (mLike 12)) (dCons (dLc (dIter (dVar 2)) [14] (tName 14) dYes (dMethT "can_leave" 2 tb_can_leave (dVar 14) (dCons (dVar 7) dNil))) (dCons (dVar 6) dNil))))) (dRet (dC (.bl false))) dSkip)
  (dSeq (dFor (dArg fRange1 (dCons (dC (.int 7)) dNil)) (tName 8) (dSeq (dAsg (dCall (fCall 1 m_Schedule_read) (dCons (dBin fIxS (dVar 3) (dVar 8)) dNil)) (tName 9))
  (dSeq (dIfS (dOrT (dTest (dBin fNe (dLc (dIter (dVar 2)) [14] (tName 14) dYes (dBin (fEqO tb_eq okp) (dVar 9) (dVar 14))) (dLc (dArg fRange1 (dCons (dC (.int 8)) dNil)) [15] (tName 15) dYes (dBin fEq (dVar 15) (dVar 8))))) (dTest (dBin (fEqO tb_eq okp) (dVar 9) (dBin fIxS (dVar 3) (dVar 8))))) (dRet (dC (.bl false))) dSkip)
  (dIfS (dOrT (dNotT (dTest (dCall (fIsiO ocs oxs oanc) (dCons (dVar 9) (dCons (dC (.glo "Schedule")) dNil))))) (dTest (dBin (fIsB true) (dBin (fNeO tb_eq okp) (dBin fIxS (dVar 2) (dVar 8)) (dVar 9)) (dC (.bl false))))) (dRet (dC (.bl false))) dSkip)))) e))))))))
def F0 : List D := [.int 1, .int 0, .int 0, .int 0, .int 0, .int 0, .int 0, .int 0]
def U0 : List D := [.bl true, .bl true, .bl true, .bl true, .bl true, .bl true, .bl true, .bl true]
theorem b0 (s : Src) (scr : SV) (e : DSt) : partB e [scr, .v (.obj 1), .v (.lst M8), .v (.lst T8), .v (.int 1), .no, .no, .no, .no, .no, .no, .no, .no, .no, .no, .no] (st s) = e [scr, .v (.obj 1), .v (.lst M8), .v (.lst T8), .v (.int 1), .v (.lst F0), .v (.lst U0), .v (.int 0), .v (.int 6), .v (.ins "Never" []), .no, .no, .no, .no, .no, .no] (st s) := by kernel_rfl
def F1 : List D := [.int 2, .int 1, .int 0, .int 0, .int 2, .int 0, .int 0, .int 0]
def U1 : List D := [.bl false, .bl true, .bl true, .bl true, .bl true, .bl true, .bl true, .bl true]
theorem b1 (s : Src) (scr : SV) (e : DSt) : partB e [scr, .v (.obj 1), .v (.lst M8), .v (.lst T8), .v (.int 2), .no, .no, .no, .no, .no, .no, .no, .no, .no, .no, .no] (st s) = e [scr, .v (.obj 1), .v (.lst M8), .v (.lst T8), .v (.int 2), .v (.lst F1), .v (.lst U1), .v (.int 1), .v (.int 6), .v (.ins "Never" []), .no, .no, .no, .no, .no, .no] (st s) := by kernel_rfl
def F2 : List D := [.int 3, .int 2, .int 1, .int 0, .int 0, .int 3, .int 0, .int 0]
def U2 : List D := [.bl false, .bl false, .bl true, .bl true, .bl false, .bl true, .bl true, .bl true]
theorem b2 (s : Src) (scr : SV) (e : DSt) : partB e [scr, .v (.obj 1), .v (.lst M8), .v (.lst T8), .v (.int 3), .no, .no, .no, .no, .no, .no, .no, .no, .no, .no, .no] (st s) = e [scr, .v (.obj 1), .v (.lst M8), .v (.lst T8), .v (.int 3), .v (.lst F2), .v (.lst U2), .v (.int 2), .v (.int 6), .v (.ins "Never" []), .no, .no, .no, .no, .no, .no] (st s) := by kernel_rfl
def F3 : List D := [.int 4, .int 3, .int 2, .int 1, .int 0, .int 0, .int 0, .int 0]
def U3 : List D := [.bl false, .bl false, .bl false, .bl true, .bl false, .bl false, .bl true, .bl true]
theorem b3 (s : Src) (scr : SV) (e : DSt) : partB e [scr, .v (.obj 1), .v (.lst M8), .v (.lst T8), .v (.int 4), .no, .no, .no, .no, .no, .no, .no, .no, .no, .no, .no] (st s) = e [scr, .v (.obj 1), .v (.lst M8), .v (.lst T8), .v (.int 4), .v (.lst F3), .v (.lst U3), .v (.int 3), .v (.int 6), .v (.ins "Never" []), .no, .no, .no, .no, .no, .no] (st s) := by kernel_rfl
def F4 : List D := [.int 5, .int 4, .int 3, .int 2, .int 0, .int 0, .int 0, .int 0]
def U4 : List D := [.bl false, .bl false, .bl false, .bl false, .bl false, .bl false, .bl true, .bl true]
theorem b4 (s : Src) (scr : SV) (e : DSt) : partB e [scr, .v (.obj 1), .v (.lst M8), .v (.lst T8), .v (.int 5), .no, .no, .no, .no, .no, .no, .no, .no, .no, .no, .no] (st s) = e [scr, .v (.obj 1), .v (.lst M8), .v (.lst T8), .v (.int 5), .v (.lst F4), .v (.lst U4), .v (.int 4), .v (.int 6), .v (.ins "Never" []), .no, .no, .no, .no, .no, .no] (st s) := by kernel_rfl
def F5 : List D := [.int 6, .int 5, .int 4, .int 3, .int 0, .int 0, .int 0, .int 0]
def U5 : List D := [.bl false, .bl false, .bl false, .bl false, .bl false, .bl false, .bl true, .bl true]
theorem b5 (s : Src) (scr : SV) (e : DSt) : partB e [scr, .v (.obj 1), .v (.lst M8), .v (.lst T8), .v (.int 6), .no, .no, .no, .no, .no, .no, .no, .no, .no, .no, .no] (st s) = e [scr, .v (.obj 1), .v (.lst M8), .v (.lst T8), .v (.int 6), .v (.lst F5), .v (.lst U5), .v (.int 5), .v (.int 6), .v (.ins "Never" []), .no, .no, .no, .no, .no, .no] (st s) := by kernel_rfl
def F6 : List D := [.int 7, .int 6, .int 5, .int 4, .int 0, .int 0, .int 0, .int 0]
def U6 : List D := [.bl false, .bl false, .bl false, .bl false, .bl false, .bl false, .bl true, .bl true]
theorem b6 (s : Src) (scr : SV) (e : DSt) : partB e [scr, .v (.obj 1), .v (.lst M8), .v (.lst T8), .v (.int 7), .no, .no, .no, .no, .no, .no, .no, .no, .no, .no, .no] (st s) = e [scr, .v (.obj 1), .v (.lst M8), .v (.lst T8), .v (.int 7), .v (.lst F6), .v (.lst U6), .v (.int 6), .v (.int 6), .v (.ins "Never" []), .no, .no, .no, .no, .no, .no] (st s) := by kernel_rfl
def F7 : List D := [.int 8, .int 7, .int 6, .int 5, .int 0, .int 0, .int 0, .int 0]
def U7 : List D := [.bl false, .bl false, .bl false, .bl false, .bl false, .bl false, .bl true, .bl true]
theorem b7 (s : Src) (scr : SV) (e : DSt) : partB e [scr, .v (.obj 1), .v (.lst M8), .v (.lst T8), .v (.int 8), .no, .no, .no, .no, .no, .no, .no, .no, .no, .no, .no] (st s) = e [scr, .v (.obj 1), .v (.lst M8), .v (.lst T8), .v (.int 8), .v (.lst F7), .v (.lst U7), .v (.int 7), .v (.int 6), .v (.ins "Never" []), .no, .no, .no, .no, .no, .no] (st s) := by kernel_rfl
def F8 : List D := [.int 9, .int 8, .int 7, .int 6, .int 0, .int 0, .int 0, .int 0]
def U8 : List D := [.bl false, .bl false, .bl false, .bl false, .bl false, .bl false, .bl true, .bl true]
theorem b8 (s : Src) (scr : SV) (e : DSt) : partB e [scr, .v (.obj 1), .v (.lst M8), .v (.lst T8), .v (.int 9), .no, .no, .no, .no, .no, .no, .no, .no, .no, .no, .no] (st s) = e [scr, .v (.obj 1), .v (.lst M8), .v (.lst T8), .v (.int 9), .v (.lst F8), .v (.lst U8), .v (.int 8), .v (.int 6), .v (.ins "Never" []), .no, .no, .no, .no, .no, .no] (st s) := by kernel_rfl
theorem bAll (s : Src) (scr : SV) (r : Int) (h0 : 0 ≤ r) (h1 : r < 9) : ∃ c f u lf, ∀ e, partB e [scr, .v (.obj 1), .v (.lst M8), .v (.lst T8), .v (.int (1 + r)), .no, .no, .no, .no, .no, .no, .no, .no, .no, .no, .no] (st s) = e [scr, .v (.obj 1), .v (.lst M8), .v (.lst T8), c, f, u, lf, .v (.int 6), .v (.ins "Never" []), .no, .no, .no, .no, .no, .no] (st s) := by
  have h : r = 0 ∨ r = 1 ∨ r = 2 ∨ r = 3 ∨ r = 4 ∨ r = 5 ∨ r = 6 ∨ r = 7 ∨ r = 8 := by omega
  rcases h with rfl | rfl | rfl | rfl | rfl | rfl | rfl | rfl | rfl
  · exact ⟨_, _, _, _, fun e => b0 s scr e⟩
  · exact ⟨_, _, _, _, fun e => b1 s scr e⟩
  · exact ⟨_, _, _, _, fun e => b2 s scr e⟩
  · exact ⟨_, _, _, _, fun e => b3 s scr e⟩
  · exact ⟨_, _, _, _, fun e => b4 s scr e⟩
  · exact ⟨_, _, _, _, fun e => b5 s scr e⟩
  · exact ⟨_, _, _, _, fun e => b6 s scr e⟩
  · exact ⟨_, _, _, _, fun e => b7 s scr e⟩
  · exact ⟨_, _, _, _, fun e => b8 s scr e⟩
def O6 : List D := [.int 0, .int 4, .non, .bl true, .str "1", .int (-1)]
def X14 : List D := [.str "", .str "Now", .str "late", .str "late 0", .str "late 4", .str "late  1", .str "rounds 1", .str "rounds 4", .str "unknown", .non, .int 3, .tup [.str "now"], .str "never ", .str "now\n"]
theorem o6 {d : D} (h : d ∈ O6) : nobor d = true ∧ unbor d = d ∧ hold d = d ∧ noClo d = true ∧ lkD 9 d = true := by
  unfold O6 at h
  simp only [List.mem_cons, List.not_mem_nil, or_false] at h
  rcases h with rfl | rfl | rfl | rfl | rfl | rfl <;> exact ⟨rfl, rfl, rfl, by kernel_rfl, by kernel_rfl⟩
theorem x14 {d : D} (h : d ∈ X14) : nobor d = true ∧ unbor d = d ∧ hold d = d ∧ noClo d = true ∧ lkD 9 d = true := by
  unfold X14 at h
  simp only [List.mem_cons, List.not_mem_nil, or_false] at h
  rcases h with rfl | rfl | rfl | rfl | rfl | rfl | rfl | rfl | rfl | rfl | rfl | rfl | rfl | rfl <;> exact ⟨rfl, rfl, rfl, by kernel_rfl, by kernel_rfl⟩
theorem w0 {d : D} (h : d ∈ O6) (s : Src) : mWhy fc (lm_0 [d]) (st s) = some (.val (.tup [.str "InvalidNumber", d]), st s) := by
  unfold O6 at h
  simp only [List.mem_cons, List.not_mem_nil, or_false] at h
  rcases h with rfl | rfl | rfl | rfl | rfl | rfl <;> kernel_rfl
theorem w1 {d : D} (h : d ∈ O6) (s : Src) : mWhy fc (lm_1 [d]) (st s) = some (.val (.tup [.str "InvalidNumber", d]), st s) := by
  unfold O6 at h
  simp only [List.mem_cons, List.not_mem_nil, or_false] at h
  rcases h with rfl | rfl | rfl | rfl | rfl | rfl <;> kernel_rfl
theorem w2 (s : Src) : mWhy fc (lm_2 []) (st s) = some (.val (.tup [.str "InvalidNumber", .int 1]), st s) := by kernel_rfl
theorem w3 {d : D} (h : d ∈ X14) (s : Src) : mWhy fc (lm_3 [d]) (st s) = some (.val (.tup [.str "InvalidSchedule", d]), st s) := by
  unfold X14 at h
  simp only [List.mem_cons, List.not_mem_nil, or_false] at h
  rcases h with rfl | rfl | rfl | rfl | rfl | rfl | rfl | rfl | rfl | rfl | rfl | rfl | rfl | rfl <;> kernel_rfl
abbrev K10 : List D := [.bl true, .bl true, .bl true, .bl true, .bl true, .bl true, .bl true, .bl true, .bl false, .bl false]
abbrev lamsD (cells : List (Str × Addr)) : List D := [.lam (cloFrom cells lam_0.scope.names []) lam_0, .lam (cloFrom cells lam_1.scope.names []) lam_1, .lam (cloFrom cells lam_2.scope.names []) lam_2, .lam (cloFrom cells lam_3.scope.names []) lam_3]
abbrev dueD (od tx : D) : List D := [.tup [.str "InvalidNumber", od], .tup [.str "InvalidNumber", od], .tup [.str "InvalidNumber", .int 1], .tup [.str "InvalidSchedule", tx]]
section
variable (s : Src) (scr c f u lf : SV) (od tx : D) (cells : List (Str × Addr))
theorem c_asks : (dAsg (dLst (dCons (dLamV 0 ("law", none) (cloFrom cells lam_0.scope.names []) lam_0) (dCons (dLamV 0 ("law", none) (cloFrom cells lam_1.scope.names []) lam_1) (dCons (dLamV 0 ("law", none) (cloFrom cells lam_2.scope.names []) lam_2) (dCons (dLamV 0 ("law", none) (cloFrom cells lam_3.scope.names []) lam_3) dNil))))) (tName 12)) [scr, .v (.obj 1), .v (.lst M8), .v (.lst T8), c, f, u, lf, .v (.int 6), .v (.ins "Never" []), .v od, .v tx, .no, .no, .no, .no] (st s) = some (.val .nx, [scr, .v (.obj 1), .v (.lst M8), .v (.lst T8), c, f, u, lf, .v (.int 6), .v (.ins "Never" []), .v od, .v tx, .v (.lst (lamsD cells)), .no, .no, .no], st s) := by kernel_rfl
theorem c_due (ho : nobor od = true ∧ hold od = od) (ht : nobor tx = true ∧ hold tx = tx) : (dAsg (dLst (dCons (dTup (dCons (dC (.str "InvalidNumber")) (dCons (dVar 10) dNil))) (dCons (dTup (dCons (dC (.str "InvalidNumber")) (dCons (dVar 10) dNil))) (dCons (dTup (dCons (dC (.str "InvalidNumber")) (dCons (dC (.int 1)) dNil))) (dCons (dTup (dCons (dC (.str "InvalidSchedule")) (dCons (dVar 11) dNil))) dNil))))) (tName 6)) [scr, .v (.obj 1), .v (.lst M8), .v (.lst T8), c, f, u, lf, .v (.int 6), .v (.ins "Never" []), .v od, .v tx, .v (.lst (lamsD cells)), .no, .no, .no] (st s) = some (.val .nx, [scr, .v (.obj 1), .v (.lst M8), .v (.lst T8), c, f, .v (.lst (dueD od tx)), lf, .v (.int 6), .v (.ins "Never" []), .v od, .v tx, .v (.lst (lamsD cells)), .no, .no, .no], st s) := by
  simp (decide := true) only [dSeq, dIfS, dRet, dSkip, dAsg, tName, unbor, bindS, dTest, fTest, dBin, dC, dVar, dNotT, dAndT, dOrT, dAndV, dOrV, dIf, bindR, Dv.ret, hold_new, hold_int, hold_bl, hold_tup, hold_lst, hold_obj, hold_str, hold_non, hold_ty, hold_bor, dCall, dCons, dNil, dIter, fIter, dArg, nobor_new, nobor_int, nobor_bl, nobor_tup, nobor_lst, nobor_obj, nobor_str, nobor_non, nobor_ty, Bool.and_self, and_self, if_true, if_false, Bool.false_eq_true, Bool.not_true, Bool.not_false, List.all_cons, List.all_nil, List.length_cons, List.length_nil, Nat.zero_add, Nat.reduceAdd, List.getElem?_cons_zero, List.getElem?_cons_succ, List.set_cons_zero, List.set_cons_succ, fCall, decide_true, decide_false, dTup, fTup, dLst, fLst, ho.1, ho.2, ht.1, ht.2]
theorem c_kinds : (dAsg (dBin fAdd (dLc (dIter (dVar 2)) [14] (tName 14) dYes (dCall (fIsiO ocs oxs oanc) (dCons (dVar 14) (dCons (dC (.glo "Schedule")) dNil)))) (dLst (dCons (dCall (fIsiO ocs oxs oanc) (dCons (dBin fIxS (dVar 2) (dC (.int 1))) (dCons (dC (.glo "Rounds")) dNil))) (dCons (dCall (fIsiO ocs oxs oanc) (dCons (dBin fIxS (dVar 2) (dC (.int 6))) (dCons (dC (.glo "Now")) dNil))) dNil)))) (tName 13)) [scr, .v (.obj 1), .v (.lst M8), .v (.lst T8), c, f, .v (.lst (dueD od tx)), lf, .v (.int 6), .v (.ins "Never" []), .v od, .v tx, .v (.lst (lamsD cells)), .no, .no, .no] (st s) = some (.val .nx, [scr, .v (.obj 1), .v (.lst M8), .v (.lst T8), c, f, .v (.lst (dueD od tx)), lf, .v (.int 6), .v (.ins "Never" []), .v od, .v tx, .v (.lst (lamsD cells)), .v (.lst K10), .no, .no], st s) := by kernel_rfl
end
theorem clo_at {N : List Str} {sc : Scope} {cells : List (Str × Addr)} {env : DEnv} {L : LamI} {ds : List D} (h : capsC N sc L = true) (hc : capD env (jsOf N L.fr) = some ds) : cloD N sc cells env (.lam (cloFrom cells L.scope.names []) L) = some (.clo L ds) := by
  unfold cloD
  simp only [h, and_self, if_true, hc]
theorem clos_cons {N : List Str} {sc : Scope} {cells : List (Str × Addr)} {env : DEnv} {d c : D} {l cs : List D} (h : cloD N sc cells env d = some c) (r : closD N sc cells env l = some cs) : closD N sc cells env (d :: l) = some (c :: cs) := by
  unfold closD
  rw [h, r]
theorem whys_ok (s : Src) (cells : List (Str × Addr)) (scr c f u lf kd : SV) {od tx : D} (ho : od ∈ O6) (ht : tx ∈ X14) :
    dClos m__law_whys N_law (defScope s_law) cells (dVar 12) [scr, .v (.obj 1), .v (.lst M8), .v (.lst T8), c, f, .v (.lst (dueD od tx)), lf, .v (.int 6), .v (.ins "Never" []), .v od, .v tx, .v (.lst (lamsD cells)), kd, .no, .no] (st s) = some (.val (.new (dueD od tx)), st s) := by
  obtain ⟨a1, a2, a3, a4, a5⟩ := o6 ho
  obtain ⟨t1, t2, t3, t4, t5⟩ := x14 ht
  have cl : closD N_law (defScope s_law) cells [scr, .v (.obj 1), .v (.lst M8), .v (.lst T8), c, f, .v (.lst (dueD od tx)), lf, .v (.int 6), .v (.ins "Never" []), .v od, .v tx, .v (.lst (lamsD cells)), kd, .no, .no] (lamsD cells) = some [.clo lam_0 [od], .clo lam_1 [od], .clo lam_2 [], .clo lam_3 [tx]] :=
    clos_cons (clo_at (by kernel_rfl) (by kernel_rfl)) (clos_cons (clo_at (by kernel_rfl) (by kernel_rfl)) (clos_cons (clo_at (by kernel_rfl) (by kernel_rfl)) (clos_cons (clo_at (by kernel_rfl) (by kernel_rfl)) rfl)))
  have nc0 : noClos [od] = true := by show (noClo od && true) = true; rw [a4]; rfl
  have nc3 : noClos [tx] = true := by show (noClo tx && true) = true; rw [t4]; rfl
  have run := whys_run (fc := fc) (n := 4) (lams := lams) (tab := ltab) (μ := st s) (i := 1) (env := [.v (.lst [.clo lam_0 [od], .clo lam_1 [od], .clo lam_2 [], .clo lam_3 [tx]]), .no]) (by show 1 < 2; decide) rfl
    (qs := [(0, [od], .tup [.str "InvalidNumber", od]), (1, [od], .tup [.str "InvalidNumber", od]), (2, [], .tup [.str "InvalidNumber", .int 1]), (3, [tx], .tup [.str "InvalidSchedule", tx])]) (by
      intro q hq
      simp only [List.mem_cons, List.not_mem_nil, or_false] at hq
      rcases hq with rfl | rfl | rfl | rfl
      · exact ⟨(by decide : 0 < 4), rfl, nc0, w0 ho s, rfl⟩
      · exact ⟨(by decide : 1 < 4), rfl, nc0, w1 ho s, rfl⟩
      · exact ⟨(by decide : 2 < 4), rfl, rfl, w2 s, rfl⟩
      · exact ⟨(by decide : 3 < 4), rfl, nc3, w3 ht s, rfl⟩)
  have e : m__law_whys [.lst [.clo lam_0 [od], .clo lam_1 [od], .clo lam_2 [], .clo lam_3 [tx]]] (st s) = some (.val (.new (dueD od tx)), st s) :=
    def_ret (env := [.v (.lst [.clo lam_0 [od], .clo lam_1 [od], .clo lam_2 [], .clo lam_3 [tx]]), .no]) (by
      unfold b__law_whys
      exact ret_ (dLc_of (own := [1]) (ds := [.clo lam_0 [od], .clo lam_1 [od], .clo lam_2 [], .clo lam_3 [tx]]) (μ1 := st s) rfl rfl run)) rfl
  have nx : noCloX (.new (dueD od tx)) = true := by
    show noClos (dueD od tx) = true
    have h1 : noClo od = true := a4
    have h2 : noClo tx = true := t4
    simp only [dueD, noClos, noClo, h1, h2, Bool.and_self]
  unfold dClos
  show bindR (ret (.lst (lamsD cells)) (st s)) (fClos m__law_whys N_law (defScope s_law) cells _) = _
  show fClos m__law_whys N_law (defScope s_law) cells _ (.lst (lamsD cells)) (st s) = _
  unfold fClos
  simp only [hold_lst, cl, e]
  rw [if_pos ⟨nx, rfl⟩]
theorem fin_ok (s : Src) (cells : List (Str × Addr)) (scr c f u lf : SV) {od tx : D} (ho : od ∈ O6) (ht : tx ∈ X14) :
    (dRet (dAndV (dCall (fCall 2 (mLike 12)) (dCons (dClos m__law_whys N_law (defScope s_law) cells (dVar 12)) (dCons (dVar 6) dNil))) (dBin fEq (dVar 13) (dBin fAdd (dBin fMul (dLst (dCons (dC (.bl true)) dNil)) (dC (.int 8))) (dLst (dCons (dC (.bl false)) (dCons (dC (.bl false)) dNil))))))) [scr, .v (.obj 1), .v (.lst M8), .v (.lst T8), c, f, .v (.lst (dueD od tx)), lf, .v (.int 6), .v (.ins "Never" []), .v od, .v tx, .v (.lst (lamsD cells)), .v (.lst K10), .no, .no] (st s) = some (.val (.ret (.bl true)), [scr, .v (.obj 1), .v (.lst M8), .v (.lst T8), c, f, .v (.lst (dueD od tx)), lf, .v (.int 6), .v (.ins "Never" []), .v od, .v tx, .v (.lst (lamsD cells)), .v (.lst K10), .no, .no], st s) := by
  obtain ⟨a1, a2, a3, a4, a5⟩ := o6 ho
  obtain ⟨t1, t2, t3, t4, t5⟩ := x14 ht
  have w := whys_ok s cells scr c f u lf (.v (.lst K10)) ho ht
  have lk : lkD 11 (.lst (dueD od tx)) = true := by
    simp only [dueD, lkD, List.all_cons, List.all_nil, a5, t5, Bool.and_self, Bool.and_true]
    decide +kernel
  have e1 : (dCall (fCall 2 (mLike 12)) (dCons (dClos m__law_whys N_law (defScope s_law) cells (dVar 12)) (dCons (dVar 6) dNil))) [scr, .v (.obj 1), .v (.lst M8), .v (.lst T8), c, f, .v (.lst (dueD od tx)), lf, .v (.int 6), .v (.ins "Never" []), .v od, .v tx, .v (.lst (lamsD cells)), .v (.lst K10), .no, .no] (st s) = some (.val (.bl true), st s) := by
    unfold dCall dCons
    rw [w]
    exact call_ (like_refl 11 (.lst (dueD od tx)) lk) rfl rfl
  have e2 : (dBin fEq (dVar 13) (dBin fAdd (dBin fMul (dLst (dCons (dC (.bl true)) dNil)) (dC (.int 8))) (dLst (dCons (dC (.bl false)) (dCons (dC (.bl false)) dNil))))) [scr, .v (.obj 1), .v (.lst M8), .v (.lst T8), c, f, .v (.lst (dueD od tx)), lf, .v (.int 6), .v (.ins "Never" []), .v od, .v tx, .v (.lst (lamsD cells)), .v (.lst K10), .no, .no] (st s) = some (.val (.bl true), st s) := by kernel_rfl
  refine ret_ (d := .bl true) ?_
  unfold dAndV
  rw [e1]
  exact e2
theorem source1 (ns : List Int) (hl : ns.length ≤ 63) : ∃ s, m__law_source [.scr (intsD ns)] [tb0] = some (.val (.obj 1), st s) ∧ OkS s := by
  have hz := cut_len ns none (some 63)
  refine ⟨⟨Dv.cutD ns none (some 63), 0, 0, 10014, 0⟩, ?_, ⟨Nat.le_trans hz hl, Int.le_refl 0, (by decide : (0 : Int) ≤ 10014), (by decide : (10014 : Int) < 2147483587)⟩⟩
  have e : cleanD (defD 1 b__law_source) [.scr (intsD ns)] [tb0] = some (.val (.new [.lst (intsD (Dv.cutD ns none (some 63))), .int 0, .int 0, .int 10014, .int 0]), [tb0]) := by
    refine def_ret (env := [.v (.scr (intsD ns))]) ?_ rfl
    have h : hold (.scr (intsD ns)) = .scr (intsD ns) := rfl
    show b__law_source [.v (.scr (intsD ns))] [tb0] = _
    unfold b__law_source
    simp (decide := true) only [dSeq, dIfS, dRet, dSkip, dAsg, tName, unbor, bindS, dTest, fTest, dBin, dC, dVar, dNotT, dAndT, dOrT, dAndV, dOrV, dIf, bindR, Dv.ret, hold_new, hold_int, hold_bl, hold_tup, hold_lst, hold_obj, hold_str, hold_non, hold_ty, hold_bor, dCall, dCons, dNil, dIter, fIter, dArg, nobor_new, nobor_int, nobor_bl, nobor_tup, nobor_lst, nobor_obj, nobor_str, nobor_non, nobor_ty, Bool.and_self, and_self, if_true, if_false, Bool.false_eq_true, Bool.not_true, Bool.not_false, List.all_cons, List.all_nil, List.length_cons, List.length_nil, Nat.zero_add, Nat.reduceAdd, List.getElem?_cons_zero, List.getElem?_cons_succ, List.set_cons_zero, List.set_cons_succ, fCall, decide_true, decide_false, dSl, dNoPart, dPart, fPart, fSl, h, fList, cut_intsD, dLst, fLst]
  unfold m__law_source adopt
  rw [e]
  simp only [asInts_intsD, List.length_cons, List.length_nil, List.cons_append, List.nil_append]
theorem pure : Pure := by
  intro ns hl cells
  obtain ⟨s, e, ho⟩ := source1 ns hl
  obtain ⟨r, s1, d1, r0, r1, ho1⟩ := draw_okJ 1 (st s) (by show 1 < 2; decide) s 9 ho (by decide) (by decide)
  have d1 : mDraw [.obj 1, .int 9] (st s) = some (.val (.int r), st s1) := d1
  obtain ⟨c, f, u, lf, eb⟩ := bAll s1 (.v (.scr (intsD ns))) r r0 r1
  obtain ⟨od, s2, hod, d2, ho2⟩ := of_okJ 1 (st s1) (by show 1 < 2; decide) s1 O6 ho1 (by decide) (by decide) (fun d h => (o6 h).1) (fun d h => (o6 h).2.1)
  have d2 : mOf [.obj 1, .lst O6] (st s1) = some (.val od, st s2) := d2
  obtain ⟨tx, s3, htx, d3, ho3⟩ := of_okJ 1 (st s2) (by show 1 < 2; decide) s2 X14 ho2 (by decide) (by decide) (fun d h => (x14 h).1) (fun d h => (x14 h).2.1)
  have d3 : mOf [.obj 1, .lst X14] (st s2) = some (.val tx, st s3) := d3
  obtain ⟨a1, a2, a3, a4, a5⟩ := o6 hod
  obtain ⟨t1, t2, t3, t4, t5⟩ := x14 htx
  refine ⟨st s3, def_ret (env := [.v (.scr (intsD ns)), .v (.obj 1), .v (.lst M8), .v (.lst T8), c, f, .v (.lst (dueD od tx)), lf, .v (.int 6), .v (.ins "Never" []), .v od, .v tx, .v (.lst (lamsD cells)), .v (.lst K10), .no, .no]) ?_ rfl⟩
  show b_law cells [.v (.scr (intsD ns)), .no, .no, .no, .no, .no, .no, .no, .no, .no, .no, .no, .no, .no, .no, .no] [tb0] = _
  unfold b_law
  refine seq_nx (env' := [.v (.scr (intsD ns)), .v (.obj 1), .no, .no, .no, .no, .no, .no, .no, .no, .no, .no, .no, .no, .no, .no]) (μ' := st s) ?_ (seq_nx (pa0 s _) (seq_nx (pa1 s _) (seq_nx (pa2 s _) (seq_nx (pa3 s _) (seq_nx (env' := [.v (.scr (intsD ns)), .v (.obj 1), .v (.lst M8), .v (.lst T8), .v (.int (1 + r)), .no, .no, .no, .no, .no, .no, .no, .no, .no, .no, .no]) (μ' := st s1) ?_ (Eq.trans (eb _) (seq_nx (env' := [.v (.scr (intsD ns)), .v (.obj 1), .v (.lst M8), .v (.lst T8), c, f, u, lf, .v (.int 6), .v (.ins "Never" []), .v od, .no, .no, .no, .no, .no]) (μ' := st s2) ?_ (seq_nx (env' := [.v (.scr (intsD ns)), .v (.obj 1), .v (.lst M8), .v (.lst T8), c, f, u, lf, .v (.int 6), .v (.ins "Never" []), .v od, .v tx, .no, .no, .no, .no]) (μ' := st s3) ?_ (seq_nx (c_asks s3 _ c f u lf od tx cells) (seq_nx (c_due s3 _ c f u lf od tx cells ⟨a1, a3⟩ ⟨t1, t3⟩) (seq_nx (c_kinds s3 _ c f lf od tx cells) (fin_ok s3 cells _ c f u lf hod htx))))))))))))
  · have h : hold (.scr (intsD ns)) = .scr (intsD ns) := rfl
    have h2 : nobor (.scr (intsD ns)) = true := rfl
    simp (decide := true) only [dSeq, dIfS, dRet, dSkip, dAsg, tName, unbor, bindS, dTest, fTest, dBin, dC, dVar, dNotT, dAndT, dOrT, dAndV, dOrV, dIf, bindR, Dv.ret, hold_new, hold_int, hold_bl, hold_tup, hold_lst, hold_obj, hold_str, hold_non, hold_ty, hold_bor, dCall, dCons, dNil, dIter, fIter, dArg, nobor_new, nobor_int, nobor_bl, nobor_tup, nobor_lst, nobor_obj, nobor_str, nobor_non, nobor_ty, Bool.and_self, and_self, if_true, if_false, Bool.false_eq_true, Bool.not_true, Bool.not_false, List.all_cons, List.all_nil, List.length_cons, List.length_nil, Nat.zero_add, Nat.reduceAdd, List.getElem?_cons_zero, List.getElem?_cons_succ, List.set_cons_zero, List.set_cons_succ, decide_true, decide_false, h2, h, call_ (n := 1) (ha := by rfl) e]
  · simp (decide := true) only [dSeq, dIfS, dRet, dSkip, dAsg, tName, unbor, bindS, dTest, fTest, dBin, dC, dVar, dNotT, dAndT, dOrT, dAndV, dOrV, dIf, bindR, Dv.ret, hold_new, hold_int, hold_bl, hold_tup, hold_lst, hold_obj, hold_str, hold_non, hold_ty, hold_bor, dCall, dCons, dNil, dIter, fIter, dArg, nobor_new, nobor_int, nobor_bl, nobor_tup, nobor_lst, nobor_obj, nobor_str, nobor_non, nobor_ty, Bool.and_self, and_self, if_true, if_false, Bool.false_eq_true, Bool.not_true, Bool.not_false, List.all_cons, List.all_nil, List.length_cons, List.length_nil, Nat.zero_add, Nat.reduceAdd, List.getElem?_cons_zero, List.getElem?_cons_succ, List.set_cons_zero, List.set_cons_succ, decide_true, decide_false, call_ (n := 2) (ha := by rfl) d1, fAdd]
  · have dl : (dCons (dVar 1) (dCons (dLst (dCons (dC (.int 0)) (dCons (dC (.int 4)) (dCons (dC .non) (dCons (dC (.bl true)) (dCons (dC (.str "1")) (dCons (dBin fSub (dC (.int 0)) (dC (.int 1))) dNil))))))) dNil)) [.v (.scr (intsD ns)), .v (.obj 1), .v (.lst M8), .v (.lst T8), c, f, u, lf, .v (.int 6), .v (.ins "Never" []), .no, .no, .no, .no, .no, .no] (st s1) = some (.val [.obj 1, .lst O6], st s1) := by kernel_rfl
    refine asg_ (d := od) ?_ a1 (by rw [a3]; rfl)
    unfold dCall
    rw [dl]
    exact call_ d2 rfl rfl
  · have dl : (dCons (dVar 1) (dCons (dLst (dCons (dC (.str "")) (dCons (dC (.str "Now")) (dCons (dC (.str "late")) (dCons (dC (.str "late 0")) (dCons (dC (.str "late 4")) (dCons (dC (.str "late  1")) (dCons (dC (.str "rounds 1")) (dCons (dC (.str "rounds 4")) (dCons (dC (.str "unknown")) (dCons (dC .non) (dCons (dC (.int 3)) (dCons (dTup (dCons (dC (.str "now")) dNil)) (dCons (dC (.str "never ")) (dCons (dC (.str "now\n")) dNil))))))))))))))) dNil)) [.v (.scr (intsD ns)), .v (.obj 1), .v (.lst M8), .v (.lst T8), c, f, u, lf, .v (.int 6), .v (.ins "Never" []), .v od, .no, .no, .no, .no, .no] (st s2) = some (.val [.obj 1, .lst X14], st s2) := by kernel_rfl
    refine asg_ (d := tx) ?_ t1 (by rw [t3]; rfl)
    unfold dCall
    rw [dl]
    exact call_ d3 rfl rfl

end Lw_k21

theorem PySem.Challenge.cw_mendcalls_k21_schedules_told_holds : PySem.Challenge.rw_mendcalls_k21_schedules_told.Holds := by
  exact Lw_k21.holds Lw_k21.pure
