import PyProof.Rows.All
import Wide.All
import OpenK.AllK
import Wide.FinOn
import KE.KStateDown
import HandS.ForMost
import HandS.ForExc
import HandS.CallSlots
import HandS.Defaults
import HandS.Lambda
import HandS.HeadHook4
import KE.KDflt
import HandS.IsInst
import HandS.TupAny
import HandS.Zip
import HandS.Deep
import HandS.TupMul
import KE.GoesEnum
import KE.GoesNew
import HandS.Iter
import HandS.Style
import HandS.Comp
import HandS.List
import HandS.Wide
import HandS.Words
import HandS.WordsExc
import HandS.Head0
import HandS.Head1
import HandS.Head2
import HandS.HeadEnd
import HandS.HeadHook1
import HandS.HeadHook2
import HandS.ExcInit
import KE.KExcSuper
import KE.KExcInit
import HandS.ExcField
import HandS.ExcValue
import HandS.TryMany
import HandS.Sort
import HandS.HeadWalk
import KE.KExcIs
import HandS.Property
import HandS.Star
import KE.SortData
import HandS.Nested
import HandS.FStr
import HandS.HeadNt
import HandS.SlotsOwn
import HandS.MakeKw
import HandS.SortKw
import KE.SortKeyHeap
import OpenK.KMeth
import HandS.MakeKwOnly
import HandS.Text
import HandS.ClsMeth
import HandS.GenList
import KE.GoesComp
import HandS.GenYield
import PySem.Challenge.RW_mendcalls_k04_scaled_rows_in_order
set_option Elab.async false
set_option linter.all false
set_option maxRecDepth 100000
set_option maxHeartbeats 0
/-! DvA: deep values, the store, the relation of a run's state to them, the readings as plain functions. -/
namespace Dv
open PySem PySem.Spec PyProof.Rows L2

/-! ### deep values -/
/-- what is fixed about a lambda that stands in a list: its number, its name, its text, whether it has one parameter =0, the names it catches -/
structure LamI where
  num : Nat
  q : Str
  params : Arguments
  body : Expr
  scope : Scope
  dfl : Bool
  fr : List Str
inductive D where
  | non | bl (b : Bool) | int (i : Int) | str (x : Str) | ty (n : String)
  | tup (l : List D) | lst (l : List D) | scr (l : List D)
  | new (l : List D) | bor (l : List D)
  | ins (c : Str) (fs : List (Str × D)) | exn (c : Str) (fs : List (Str × D))
  | obj (k : Nat) | glo (x : Str) | fn (a : Addr) | rng (lo hi : Int)
  | lam (cl : List (Str × Addr)) (L : LamI) | clo (L : LamI) (ds : List D)
/-- what a slot holds: nothing known, a frozen value, a list of its own -/
inductive SV where
  | no | v (d : D) | own (l : List D)
structure Src where
  cells : List Int
  at_ : Int
  big : Int
  seed : Int
  cnt : Int
inductive MObj where
  | src (s : Src)
  | tab (p : Str × Option Str) (q : Str)
  | slf (c : Str) (fs : List (Str × D))
  | mls (l : List D)
abbrev DEnv := List SV
abbrev Mu := List MObj
structure Exn where
  cls : Str
  fs : List (Str × D)
inductive Out (α : Type) where
  | val (a : α) | exc (x : Exn)
abbrev Res (α : Type) := Option (Out α × Mu)
abbrev DEx := DEnv → Mu → Res D
@[reducible] def bindR {α β : Type} (r : Res α) (f : α → Mu → Res β) : Res β := match r with
  | some (.val a, μ) => f a μ
  | some (.exc x, μ) => some (.exc x, μ)
  | none => none
@[reducible] def ret {α : Type} (a : α) (μ : Mu) : Res α := some (.val a, μ)

/-! ### values and deep values -/
structure Tx where
  K : PySem.W.Frag
  mg : Str → Option Value
abbrev szl (n : Nat) : Prop := n ≤ 16777216
/-- a tuple that stands: frozen, or the module's own -/
def SqG (K : PySem.W.Frag) (G : Hp) (a : Addr) (xs : List V) : Prop :=
  G a = some (.tup xs) ∨ ∃ (o : Obj) (its : Array Value) (n : Nat), K.lookup a = some o ∧ o.cls = .type "tuple" ∧ o.data = .seq its n ∧ its.size ≤ sizeLine ∧ Vals xs its.toList
theorem SqG.sq {K : PySem.W.Frag} {G : Hp} {a : Addr} {xs : List V} (h : SqG K G a xs) : SqT K G a xs := by
  rcases h with h | h
  · exact .inl (.inl h)
  · exact .inr h
theorem sqG_mono {K : PySem.W.Frag} {G G' : Hp} (s : Same G G') {a : Addr} {vs : List V} (h : SqG K G a vs) : SqG K G' a vs := by
  rcases h with h | h
  · exact .inl (s _ _ h)
  · exact .inr h
/-- at a: an error of the class at C, its dict at d -/
def exv (a C d : Addr) : HO := .ext fun h => ∃ oe vs, h.get? a = some oe ∧ oe.cls = .ref C ∧ oe.dict = some d ∧ oe.data = Data.fields vs
/-- the function object of a lambda, at f -/
def LamO (f c' : Addr) (dV : Value) (cl : List (Str × Addr)) (L : LamI) : HO := .ext fun h => ∃ (doc pm ctv : Value), h.get? f = some (PySem.W.kdv_obj "<lambda>" L.q L.params (.expr L.body) L.scope cl dV doc pm c' ctv)
structure FunAt (G : Hp) (f : Addr) (cl : List (Str × Addr)) (L : LamI) : Prop where
  ex : ∃ c' dV, G f = some (LamO f c' dV cl L) ∧ G c' = some (LamX.CodeO c' L.q) ∧ ((L.dfl = false ∧ dV = .none) ∨ (L.dfl = true ∧ ∃ t, dV = .ref t ∧ G t = some (.tup [.int 0])))
/-- a cell that stands still -/
def celO (o : Obj) : HO := .frz o (.ext fun _ => True)
structure CelAt (G : Hp) (cl : List (Str × Addr)) (fr : List Str) (vs : List V) : Prop where
  len : vs.length = fr.length
  all : ∀ y a, cl.lookup y = some a → ∃ o u, G a = some (celO o) ∧ o.data = .cell u
  inj : ∀ x y a, cl.lookup x = some a → cl.lookup y = some a → x = y
  has : ∀ (i : Nat) (y : Str), fr[i]? = some y → ∃ a o u v, cl.lookup y = some a ∧ G a = some (celO o) ∧ o.data = .cell (some u) ∧ vs[i]? = some v ∧ L2.RelV v u
theorem FunAt.mono {G G' : Hp} {f : Addr} {cl : List (Str × Addr)} {L : LamI} (h : FunAt G f cl L) (s : Same G G') : FunAt G' f cl L := by
  obtain ⟨c', dV, e1, e2, e3⟩ := h.ex
  exact ⟨c', dV, s _ _ e1, s _ _ e2, e3.elim .inl fun ⟨a, t, b, c⟩ => .inr ⟨a, t, b, s _ _ c⟩⟩
theorem CelAt.mono {G G' : Hp} {cl : List (Str × Addr)} {fr : List Str} {vs : List V} (h : CelAt G cl fr vs) (s : Same G G') : CelAt G' cl fr vs :=
  ⟨h.len, fun y a e => (let ⟨o, u, x, z⟩ := h.all y a e; ⟨o, u, s _ _ x, z⟩), h.inj, fun i y e => (let ⟨a, o, u, v, x1, x2, x3⟩ := h.has i y e; ⟨a, o, u, v, x1, s _ _ x2, x3⟩)⟩
section
variable (T : Tx) (ρ : List Addr) (G : Hp)
mutual
def Rep : V → D → Prop
  | v, .non => v = .non
  | v, .bl b => v = .bl b
  | v, .int i => v = .int i
  | v, .str x => v = .str x
  | v, .ty n => v = .ty n
  | v, .tup l => ∃ a vs, v = .ref a ∧ SqG T.K G a vs ∧ szl l.length ∧ Reps vs l
  | v, .lst l => ∃ a vs, v = .ref a ∧ G a = some (.lst vs) ∧ szl l.length ∧ Reps vs l
  | v, .scr l => ∃ a vs, v = .ref a ∧ SqL T.K G a vs ∧ szl l.length ∧ Reps vs l
  | _, .new _ => False
  | _, .bor _ => False
  | v, .ins c fs => ∃ a C dx vf, v = .ref a ∧ T.mg c = some (.ref C) ∧ G a = some (.ins C dx vf) ∧ RepF vf fs
  | v, .exn c fs => ∃ a C d vf, v = .ref a ∧ T.mg c = some (.ref C) ∧ G a = some (exv a C d) ∧ G d = some (.xd vf) ∧ RepF vf fs
  | v, .obj k => ∃ a, v = .ref a ∧ ρ[k]? = some a
  | v, .glo x => ∃ a, v = .ref a ∧ T.mg x = some (.ref a)
  | v, .fn a => v = .ref a
  | v, .rng lo hi => ∃ a, v = .ref a ∧ G a = some (.rng lo hi)
  | v, .lam cl L => ∃ f, v = .ref f ∧ FunAt G f cl L
  | v, .clo L ds => ∃ f cl vs, v = .ref f ∧ FunAt G f cl L ∧ CelAt G cl L.fr vs ∧ Reps vs ds
def Reps : List V → List D → Prop
  | vs, [] => vs = []
  | vs, d :: ds => ∃ v r, vs = v :: r ∧ Rep v d ∧ Reps r ds
def RepF : List (Str × V) → List (Str × D) → Prop
  | vs, [] => vs = []
  | vs, (f, d) :: ds => ∃ v r, vs = (f, v) :: r ∧ Rep v d ∧ RepF r ds
end
end
def Pre (ρ ρ' : List Addr) : Prop := ∀ (k : Nat) a, ρ[k]? = some a → ρ'[k]? = some a
theorem Pre.refl (ρ : List Addr) : Pre ρ ρ := fun _ _ h => h
theorem Pre.trans {a b c : List Addr} (h : Pre a b) (g : Pre b c) : Pre a c := fun k x e => g k x (h k x e)
section
variable {T : Tx} {ρ ρ' : List Addr} {G G' H : Hp}
theorem sqL_mono (s : Same G G') {a : Addr} {vs : List V} (h : SqL T.K G a vs) : SqL T.K G' a vs := by
  rcases h with (h | ⟨o, h⟩) | h
  · exact .inl (.inl (s _ _ h))
  · exact .inl (.inr ⟨o, s _ _ h⟩)
  · exact .inr h
mutual
theorem Rep.mono (s : Same G G') (p : Pre ρ ρ') : ∀ {d : D} {v : V}, Rep T ρ G v d → Rep T ρ' G' v d
  | .non, _, h => h
  | .bl _, _, h => h
  | .int _, _, h => h
  | .str _, _, h => h
  | .ty _, _, h => h
  | .tup l, v, h => by
    unfold Rep at h ⊢
    obtain ⟨a, vs, e, q, z, r⟩ := h
    exact ⟨a, vs, e, sqG_mono s q, z, Reps.mono s p r⟩
  | .lst l, v, h => by
    unfold Rep at h ⊢
    obtain ⟨a, vs, e, q, z, r⟩ := h
    exact ⟨a, vs, e, s _ _ q, z, Reps.mono s p r⟩
  | .scr l, v, h => by
    unfold Rep at h ⊢
    obtain ⟨a, vs, e, q, z, r⟩ := h
    exact ⟨a, vs, e, sqL_mono s q, z, Reps.mono s p r⟩
  | .new _, _, h => by unfold Rep at h; exact h.elim
  | .bor _, _, h => by unfold Rep at h; exact h.elim
  | .ins c fs, v, h => by
    unfold Rep at h ⊢
    obtain ⟨a, C, dx, vf, e, m, q, r⟩ := h
    exact ⟨a, C, dx, vf, e, m, s _ _ q, RepF.mono s p r⟩
  | .exn c fs, v, h => by
    unfold Rep at h ⊢
    obtain ⟨a, C, d, vf, e, m, q, q2, r⟩ := h
    exact ⟨a, C, d, vf, e, m, s _ _ q, s _ _ q2, RepF.mono s p r⟩
  | .obj k, v, h => by
    unfold Rep at h ⊢
    obtain ⟨a, e, q⟩ := h
    exact ⟨a, e, p _ _ q⟩
  | .glo x, v, h => by unfold Rep at h ⊢; exact h
  | .fn a, v, h => by unfold Rep at h ⊢; exact h
  | .rng _ _, v, h => by unfold Rep at h ⊢; obtain ⟨a, e, q⟩ := h; exact ⟨a, e, s _ _ q⟩
  | .lam _ _, v, h => by unfold Rep at h ⊢; obtain ⟨f, e, q⟩ := h; exact ⟨f, e, q.mono s⟩
  | .clo _ ds, v, h => by unfold Rep at h ⊢; obtain ⟨f, cl, vs, e, q1, q2, r⟩ := h; exact ⟨f, cl, vs, e, q1.mono s, q2.mono s, Reps.mono s p r⟩
theorem Reps.mono (s : Same G G') (p : Pre ρ ρ') : ∀ {l : List D} {vs : List V}, Reps T ρ G vs l → Reps T ρ' G' vs l
  | [], _, h => by unfold Reps at h ⊢; exact h
  | d :: ds, vs, h => by
    unfold Reps at h ⊢
    obtain ⟨v, r, e, q, t⟩ := h
    exact ⟨v, r, e, Rep.mono s p q, Reps.mono s p t⟩
theorem RepF.mono (s : Same G G') (p : Pre ρ ρ') : ∀ {l : List (Str × D)} {vs : List (Str × V)}, RepF T ρ G vs l → RepF T ρ' G' vs l
  | [], _, h => by unfold RepF at h ⊢; exact h
  | (f, d) :: ds, vs, h => by
    unfold RepF at h ⊢
    obtain ⟨v, r, e, q, t⟩ := h
    exact ⟨v, r, e, Rep.mono s p q, RepF.mono s p t⟩
end
theorem Reps.nil : Reps T ρ G [] [] := by unfold Reps; rfl
theorem Reps.cons {v : V} {d : D} {vs : List V} {l : List D} (h : Rep T ρ G v d) (t : Reps T ρ G vs l) : Reps T ρ G (v :: vs) (d :: l) := by
  unfold Reps; exact ⟨v, vs, rfl, h, t⟩
theorem Reps.length : ∀ {l : List D} {vs : List V}, Reps T ρ G vs l → vs.length = l.length
  | [], vs, h => by unfold Reps at h; subst h; rfl
  | d :: ds, vs, h => by
    unfold Reps at h
    obtain ⟨v, r, rfl, _, t⟩ := h
    simp [Reps.length t]
theorem Reps.get : ∀ {l : List D} {vs : List V} {i : Nat} {d : D}, Reps T ρ G vs l → l[i]? = some d → ∃ v, vs[i]? = some v ∧ Rep T ρ G v d
  | [], _, _, _, _, e => by simp at e
  | x :: ds, vs, 0, d, h, e => by
    unfold Reps at h
    obtain ⟨v, r, rfl, q, t⟩ := h
    simp at e; subst e
    exact ⟨v, rfl, q⟩
  | x :: ds, vs, i + 1, d, h, e => by
    unfold Reps at h
    obtain ⟨v, r, rfl, q, t⟩ := h
    obtain ⟨w, e1, e2⟩ := Reps.get (i := i) t (by simpa using e)
    exact ⟨w, by simpa using e1, e2⟩
theorem Reps.append : ∀ {l m : List D} {vs us : List V}, Reps T ρ G vs l → Reps T ρ G us m → Reps T ρ G (vs ++ us) (l ++ m)
  | [], m, vs, us, h, g => by unfold Reps at h; subst h; exact g
  | d :: ds, m, vs, us, h, g => by
    unfold Reps at h
    obtain ⟨v, r, rfl, q, t⟩ := h
    exact .cons q (Reps.append t g)
theorem Reps.drop : ∀ {l : List D} {vs : List V} (n : Nat), Reps T ρ G vs l → Reps T ρ G (vs.drop n) (l.drop n)
  | _, _, 0, h => h
  | [], vs, n + 1, h => by unfold Reps at h; subst h; simp [Reps]
  | d :: ds, vs, n + 1, h => by
    unfold Reps at h
    obtain ⟨v, r, rfl, q, t⟩ := h
    exact Reps.drop n t
theorem Reps.take : ∀ {l : List D} {vs : List V} (n : Nat), Reps T ρ G vs l → Reps T ρ G (vs.take n) (l.take n)
  | _, _, 0, h => by simp [Reps]
  | [], vs, n + 1, h => by unfold Reps at h; subst h; simp [Reps]
  | d :: ds, vs, n + 1, h => by
    unfold Reps at h
    obtain ⟨v, r, rfl, q, t⟩ := h
    exact .cons q (Reps.take n t)
theorem Reps.one {v : V} {d : D} (h : Rep T ρ G v d) : Reps T ρ G [v] [d] := .cons h .nil
theorem Reps.inv {vs : List V} {d : D} {l : List D} (h : Reps T ρ G vs (d :: l)) : ∃ v r, vs = v :: r ∧ Rep T ρ G v d ∧ Reps T ρ G r l := by
  unfold Reps at h; exact h
theorem Reps.inv0 {vs : List V} (h : Reps T ρ G vs []) : vs = [] := by unfold Reps at h; exact h
end

/-! ### the store -/
def srcV (l : Addr) (s : Src) : List V := [.ref l, .int s.at_, .int s.big, .int s.seed, .int s.cnt]
def MR (T : Tx) (ρ : List Addr) (G H : Hp) (a : Addr) : MObj → Prop
  | .src s => ∃ l, H a = some (.lst (srcV l s)) ∧ G l = some (.lst (s.cells.map V.int))
  | .tab p q => a = (He.cT T.K p).2 ∧ ∃ ps : Array Value, H a = some (.tbl ps) ∧ TriplesOk ps.toList ∧ ∀ (pos : Pos) (u : Value), codeAmong pos ps.toList = some u → ∃ c, u = .ref c ∧ G c = some (LamX.CodeO c q)
  | .slf c fs => ∃ C dx vf, T.mg c = some (.ref C) ∧ H a = some (.ins C dx vf) ∧ RepF T ρ G vf fs
  | .mls l => ∃ vs, H a = some (.lst vs) ∧ Reps T ρ G vs l ∧ szl l.length
theorem MR.to {T : Tx} {ρ : List Addr} {G G' H H' : Hp} {a : Addr} {m : MObj} (r : MR T ρ G H a m) (g : Same G G') (h : ∀ o, H a = some o → H' a = some o) : MR T ρ G' H' a m := by
  cases m with
  | slf c fs => obtain ⟨C, dx, vf, e0, e1, e2⟩ := r; exact ⟨C, dx, vf, e0, h _ e1, e2.mono g (.refl _)⟩
  | mls l => obtain ⟨vs, e1, e2, z⟩ := r; exact ⟨vs, h _ e1, e2.mono g (.refl _), z⟩
  | src s => obtain ⟨l, e1, e2⟩ := r; exact ⟨l, h _ e1, g _ _ e2⟩
  | tab p q => obtain ⟨e0, ps, e1, e2, e3⟩ := r; exact ⟨e0, ps, h _ e1, e2, fun pos u hu => (let ⟨c, x, y⟩ := e3 pos u hu; ⟨c, x, g _ _ y⟩)⟩
theorem MR.pre {T : Tx} {ρ ρ' : List Addr} {G H : Hp} {a : Addr} {m : MObj} (r : MR T ρ G H a m) (p : Pre ρ ρ') : MR T ρ' G H a m := by
  cases m with
  | slf c fs => obtain ⟨C, dx, vf, e0, e1, e2⟩ := r; exact ⟨C, dx, vf, e0, e1, e2.mono (fun _ _ h => h) p⟩
  | mls l => obtain ⟨vs, e1, e2, z⟩ := r; exact ⟨vs, e1, e2.mono (fun _ _ h => h) p, z⟩
  | src s => exact r
  | tab p q => exact r
theorem MR.some {T : Tx} {ρ : List Addr} {G H : Hp} {a : Addr} {m : MObj} (r : MR T ρ G H a m) : ∃ o, H a = some o := by
  cases m with
  | src s => obtain ⟨l, e1, _⟩ := r; exact ⟨_, e1⟩
  | tab p q => obtain ⟨_, ps, e1, _⟩ := r; exact ⟨_, e1⟩
  | slf c fs => obtain ⟨C, dx, vf, _, e1, _⟩ := r; exact ⟨_, e1⟩
  | mls l => obtain ⟨vs, e1, _⟩ := r; exact ⟨_, e1⟩
structure StR (T : Tx) (ρ : List Addr) (G H : Hp) (μ : Mu) : Prop where
  len : ρ.length = μ.length
  nd : ρ.Nodup
  off : ∀ a ∈ ρ, G a = none
  at_ : ∀ (k : Nat) m, μ[k]? = some m → ∃ a, ρ[k]? = some a ∧ MR T ρ G H a m
/-- all objects but the store's stand; what is new is new -/
structure Ext (ρ : List Addr) (G H : Hp) (ρ' : List Addr) (G' H' : Hp) : Prop where
  gg : Same G G'
  pre : Pre ρ ρ'
  keep : ∀ a o, H a = some o → ∃ o', H' a = some o' ∧ (a ∉ ρ → o' = o)
  fg : ∀ a o, G' a = some o → G a = none → H a = none
  fr : ∀ a, a ∈ ρ' → a ∉ ρ → H a = none
section
variable {ρ ρ' ρ'' : List Addr} {G G' G'' H H' H'' : Hp}
theorem Ext.refl (ρ : List Addr) (G H : Hp) : Ext ρ G H ρ G H :=
  ⟨fun _ _ h => h, .refl _, fun _ o h => ⟨o, h, fun _ => rfl⟩, fun _ _ h n => (by rw [n] at h; cases h), fun _ h n => absurd h n⟩
theorem mem_of_pre (p : Pre ρ ρ') {a : Addr} (h : a ∈ ρ) : a ∈ ρ' := by
  obtain ⟨k, hk⟩ := List.mem_iff_getElem?.mp h
  exact List.mem_iff_getElem?.mpr ⟨k, p k a hk⟩
theorem Ext.old (a : Ext ρ G H ρ' G' H') {x : Addr} {o : HO} (h : H x = some o) (n : x ∉ ρ) : H' x = some o := by
  obtain ⟨o', e, k⟩ := a.keep x o h
  rw [e, k n]
theorem Ext.none (a : Ext ρ G H ρ' G' H') {x : Addr} (h : H' x = Option.none) : H x = Option.none := by
  cases e : H x with
  | none => rfl
  | some o =>
    obtain ⟨o', e', _⟩ := a.keep x o e
    rw [e'] at h; cases h
theorem Ext.trans (a : Ext ρ G H ρ' G' H') (b : Ext ρ' G' H' ρ'' G'' H'') : Ext ρ G H ρ'' G'' H'' where
  gg := a.gg.trans b.gg
  pre := a.pre.trans b.pre
  keep := fun x o h => by
    obtain ⟨o1, e1, k1⟩ := a.keep x o h
    obtain ⟨o2, e2, k2⟩ := b.keep x o1 e1
    refine ⟨o2, e2, fun n => ?_⟩
    rw [k2 fun m => ?_, k1 n]
    rw [a.fr x m n] at h; cases h
  fg := fun x o h n => by
    cases e : G' x with
    | some o' => exact a.fg x o' e n
    | none => exact a.none (b.fg x o h e)
  fr := fun x h n => by
    by_cases m : x ∈ ρ'
    · exact a.fr x m n
    · exact a.none (b.fr x h m)
end

/-! ### a body's state -/
structure Bs where
  H0 : Hp
  G0 : Hp
  ρ0 : List Addr
  xo : List (Addr × List V)
section
variable (T : Tx) (B : Bs) (ρ : List Addr) (G H : Hp) (σ : L2.St) (env : DEnv)
def SlR (i : Nat) : SV → Prop
  | .no => True
  | .v d => ∃ v : V, σ[i]? = some (some v) ∧ Rep T ρ G v d
  | .own l => ∃ (p : Addr) (vs : List V), σ[i]? = some (some (.ref p)) ∧ H p = some (.lst vs) ∧ Reps T ρ G vs l ∧ szl l.length ∧ G p = none ∧ p ∉ ρ ∧ B.H0 p = none
structure RD (μ : Mu) : Prop where
  gh : Same G H
  ext : Ext B.ρ0 B.G0 B.H0 ρ G H
  len : env.length = σ.length
  slot : ∀ (i : Nat) (s : SV), env[i]? = some s → SlR T B ρ G H σ i s
  own : ∀ (i j : Nat) (l l' : List D) (p : Addr), env[i]? = some (.own l) → env[j]? = some (.own l') → σ[i]? = some (some (.ref p)) → σ[j]? = some (some (.ref p)) → i = j
  st : StR T ρ G H μ
  xo : ∀ q ∈ B.xo, H q.1 = some (.lst q.2) ∧ G q.1 = none ∧ q.1 ∉ ρ ∧ B.H0 q.1 = none ∧ ∀ (i : Nat) (l' : List D), env[i]? = some (.own l') → σ[i]? ≠ some (some (.ref q.1))
  xn : (B.xo.map (·.1)).Nodup
/-- a value that is held on -/
def HeldR (v : V) : D → Prop
  | .bor l => ∃ (i : Nat) (p : Addr), env[i]? = some (.own l) ∧ σ[i]? = some (some (.ref p)) ∧ v = .ref p
  | d => Rep T ρ G v d
/-- a value that has just come -/
def RepX (v : V) : D → Prop
  | .new l => ∃ (p : Addr) (vs : List V), v = .ref p ∧ H p = some (.lst vs) ∧ Reps T ρ G vs l ∧ szl l.length ∧ G p = none ∧ p ∉ ρ ∧ B.H0 p = none ∧ (∀ (i : Nat) (l' : List D), env[i]? = some (.own l') → σ[i]? ≠ some (some (.ref p))) ∧ ∀ q ∈ B.xo, q.1 ≠ p
  | d => HeldR T ρ G σ env v d
end
section
variable {T : Tx} {B : Bs} {ρ ρ' : List Addr} {G G' H H' : Hp} {σ : L2.St} {env : DEnv} {μ : Mu}
theorem HeldR.mono (s : Same G G') (p : Pre ρ ρ') {v : V} {d : D} (h : HeldR T ρ G σ env v d) : HeldR T ρ' G' σ env v d := by
  cases d with
  | bor l => exact h
  | _ => exact Rep.mono s p (show Rep _ _ _ _ _ from h)
theorem HeldR.of {v : V} {d : D} (h : Rep T ρ G v d) : HeldR T ρ G σ env v d := by
  cases d with
  | bor l => unfold Rep at h; exact h.elim
  | _ => exact h
theorem RepX.of {v : V} {d : D} (h : HeldR T ρ G σ env v d) : RepX T B ρ G H σ env v d := by
  cases d with
  | new l => unfold HeldR Rep at h; exact h.elim
  | _ => exact h
theorem RepX.ofR {v : V} {d : D} (h : Rep T ρ G v d) : RepX T B ρ G H σ env v d := .of (.of h)
/-- an object is added to what is frozen -/
theorem StR.alloc {p : Addr} {o : HO} (h : StR T ρ G H μ) (hp : p ∉ ρ) (gn : G p = none ) (hH : ∀ a o', H a = some o' → a ≠ p → H' a = some o') (hne : ∀ a ∈ ρ, a ≠ p) : StR T ρ (upd G p o) H' μ where
  len := h.len
  nd := h.nd
  off := fun a ha => by rw [upd_ne (hne a ha)]; exact h.off a ha
  at_ := fun k m hm => by
    obtain ⟨a, ea, r⟩ := h.at_ k m hm
    exact ⟨a, ea, r.to (fun b u e => by rw [upd_ne (fun q => (by rw [q, gn] at e; cases e))]; exact e) fun o e => hH _ _ e (hne a (List.mem_of_getElem? ea))⟩
theorem RD.fresh_ (R : RD T B ρ G H σ env μ) {p : Addr} (n : H p = Option.none) : G p = Option.none ∧ p ∉ ρ ∧ B.H0 p = Option.none := by
  refine ⟨?_, fun m => ?_, R.ext.none n⟩
  · cases e : G p with
    | none => rfl
    | some o => rw [R.gh p o e] at n; cases n
  · obtain ⟨k, hk⟩ := List.mem_iff_getElem?.mp m
    have hlt : k < μ.length := by rw [← R.st.len]; exact (List.getElem?_eq_some_iff.mp hk).1
    obtain ⟨a, ea, r⟩ := R.st.at_ k (μ[k]) (by simp [hlt])
    rw [hk] at ea; cases ea
    obtain ⟨o, e1⟩ := r.some
    rw [e1] at n; cases n
theorem same_upd (n : G p = none) : Same G (upd G p o) := fun b u e => by
  rw [upd_ne (fun q => (by rw [q, n] at e; cases e))]; exact e
/-- a new object that is frozen at once -/
theorem RD.alloc (R : RD T B ρ G H σ env μ) {p : Addr} {o : HO} (n : H p = Option.none) : RD T B ρ (upd G p o) (upd H p o) σ env μ := by
  obtain ⟨gn, pn, bn⟩ := R.fresh_ n
  have hne : ∀ a o', H a = some o' → a ≠ p := fun a o' e q => by rw [q, n] at e; cases e
  refine ⟨fun b u e => ?_, ⟨R.ext.gg.trans (same_upd gn), R.ext.pre, fun a u e => ?_, fun a u e e0 => ?_, R.ext.fr⟩, R.len, fun i s hs => ?_, R.own, R.st.alloc pn gn (fun a o' e q => by rw [upd_ne q]; exact e) fun a ha q => pn (q ▸ ha), fun q hq => ?_, R.xn⟩
  rotate_left 4
  · obtain ⟨e1, e2, e3⟩ := R.xo q hq
    have z := hne q.1 _ e1
    exact ⟨by rw [upd_ne z]; exact e1, by rw [upd_ne z]; exact e2, e3⟩
  · by_cases q : b = p
    · subst q; rw [upd_same] at e ⊢; exact e
    · rw [upd_ne q] at e ⊢; exact R.gh b u e
  · obtain ⟨o', e1, k⟩ := R.ext.keep a u e
    exact ⟨o', by rw [upd_ne (hne a o' e1)]; exact e1, k⟩
  · by_cases q : a = p
    · subst q; exact bn
    · rw [upd_ne q] at e; exact R.ext.fg a u e e0
  · have h := R.slot i s hs
    cases s with
    | no => trivial
    | v d =>
      obtain ⟨v, e, r⟩ := h
      exact ⟨v, e, r.mono (same_upd gn) (.refl _)⟩
    | own l =>
      obtain ⟨q, vs, e1, e2, e3, e4, e5, e6, e7⟩ := h
      have z := hne q _ e2
      exact ⟨q, vs, e1, by rw [upd_ne z]; exact e2, e3.mono (same_upd gn) (.refl _), e4, by rw [upd_ne z]; exact e5, e6, e7⟩
/-- a new object that is not frozen -/
theorem RD.allocN (R : RD T B ρ G H σ env μ) {p : Addr} {o : HO} (n : H p = Option.none) : RD T B ρ G (upd H p o) σ env μ := by
  obtain ⟨gn, pn, bn⟩ := R.fresh_ n
  have hne : ∀ a o', H a = some o' → a ≠ p := fun a o' e q => by rw [q, n] at e; cases e
  refine ⟨fun b u e => ?_, ⟨R.ext.gg, R.ext.pre, fun a u e => ?_, R.ext.fg, R.ext.fr⟩, R.len, fun i s hs => ?_, R.own, ⟨R.st.len, R.st.nd, R.st.off, fun k m hm => ?_⟩, fun q hq => ?_, R.xn⟩
  rotate_left 4
  · obtain ⟨e1, e2⟩ := R.xo q hq
    exact ⟨by rw [upd_ne (hne q.1 _ e1)]; exact e1, e2⟩
  · rw [upd_ne (hne b u (R.gh b u e))]; exact R.gh b u e
  · obtain ⟨o', e1, k⟩ := R.ext.keep a u e
    exact ⟨o', by rw [upd_ne (hne a o' e1)]; exact e1, k⟩
  · have h := R.slot i s hs
    cases s with
    | no => trivial
    | v d => exact h
    | own l =>
      obtain ⟨q, vs, e1, e2, r⟩ := h
      exact ⟨q, vs, e1, by rw [upd_ne (hne q _ e2)]; exact e2, r⟩
  · obtain ⟨a, ea, r⟩ := R.st.at_ k m hm
    exact ⟨a, ea, r.to (fun _ _ e => e) fun o e1 => by rw [upd_ne (hne a _ e1)]; exact e1⟩
/-- a list of nobody's is frozen -/
theorem RD.freeze (R : RD T B ρ G H σ env μ) {p : Addr} {vs : List V} (hp : H p = some (.lst vs)) (pn : p ∉ ρ) (bn : B.H0 p = Option.none) (no : ∀ (i : Nat) (l' : List D), env[i]? = some (.own l') → σ[i]? ≠ some (some (.ref p))) (nx : ∀ q ∈ B.xo, q.1 ≠ p) :
    ∃ G', Same G G' ∧ G' p = some (.lst vs) ∧ RD T B ρ G' H σ env μ := by
  cases gn : G p with
  | some o =>
    have e := R.gh p o gn
    rw [hp] at e; cases e
    exact ⟨G, fun _ _ h => h, gn, R⟩
  | none =>
    refine ⟨upd G p (.lst vs), same_upd gn, upd_same, fun b u e => ?_, ⟨R.ext.gg.trans (same_upd gn), R.ext.pre, R.ext.keep, fun a u e e0 => ?_, R.ext.fr⟩, R.len, fun i s hs => ?_, R.own, R.st.alloc pn gn (fun a o' e _ => e) fun a ha q => pn (q ▸ ha), fun q hq => ?_, R.xn⟩
    rotate_left 3
    · obtain ⟨e1, e2, e3⟩ := R.xo q hq
      exact ⟨e1, by rw [upd_ne (nx q hq)]; exact e2, e3⟩
    · by_cases q : b = p
      · subst q; rw [upd_same] at e; cases e; exact hp
      · rw [upd_ne q] at e; exact R.gh b u e
    · by_cases q : a = p
      · subst q; exact bn
      · rw [upd_ne q] at e; exact R.ext.fg a u e e0
    · have h := R.slot i s hs
      cases s with
      | no => trivial
      | v d =>
        obtain ⟨v, e, r⟩ := h
        exact ⟨v, e, r.mono (same_upd gn) (.refl _)⟩
      | own l =>
        obtain ⟨q, us, e1, e2, e3, e4, e5, e6, e7⟩ := h
        have z : q ≠ p := fun z => no i l hs (z ▸ e1)
        exact ⟨q, us, e1, e2, e3.mono (same_upd gn) (.refl _), e4, by rw [upd_ne z]; exact e5, e6, e7⟩
end

/-! ### what is wanted behind an evaluation -/
def ExR (T : Tx) (ρ : List Addr) (G H : Hp) (cls : Value) (dd : Option Addr) (x : Exn) : Prop :=
  ∃ (C d : Addr) (vf : List (Str × V)), cls = .ref C ∧ T.mg x.cls = some (.ref C) ∧ dd = some d ∧ G d = some (.xd vf) ∧ RepF T ρ G vf x.fs
def KE {α : Type} (T : Tx) (B : Bs) (σ : L2.St) (env : DEnv) (W : WX) (P : List Addr → Hp → Hp → Mu → α → Prop) (ρ : List Addr) (G : Hp) : Res α → Prop
  | some (.val a, μ') => ∀ ρ' G' H', Same G G' → Pre ρ ρ' → RD T B ρ' G' H' σ env μ' → P ρ' G' H' μ' a
  | some (.exc x, μ') => ∀ ρ' G' H' cls dd, Same G G' → Pre ρ ρ' → RD T B ρ' G' H' σ env μ' → ExR T ρ' G' H' cls dd x → W cls dd σ H'
  | none => False
section
variable {α β : Type} {T : Tx} {B : Bs} {σ : L2.St} {env : DEnv} {W : WX} {P P' : List Addr → Hp → Hp → Mu → α → Prop} {Pb : List Addr → Hp → Hp → Mu → β → Prop} {ρ ρ' : List Addr} {G G' : Hp} {r : Res α} {f : α → Mu → Res β}
theorem KE.weak (h : KE T B σ env W P ρ G r) (s : Same G G') (p : Pre ρ ρ') : KE T B σ env W P ρ' G' r := by
  match r, h with
  | some (.val a, μ), h => exact fun ρ2 G2 H2 s2 p2 R => h ρ2 G2 H2 (s.trans s2) (p.trans p2) R
  | some (.exc x, μ), h => exact fun ρ2 G2 H2 c d s2 p2 R e => h ρ2 G2 H2 c d (s.trans s2) (p.trans p2) R e
theorem KE.imp (h : KE T B σ env W P ρ G r) (i : ∀ ρ' G' H' μ' a, Same G G' → Pre ρ ρ' → RD T B ρ' G' H' σ env μ' → P ρ' G' H' μ' a → P' ρ' G' H' μ' a) : KE T B σ env W P' ρ G r := by
  match r, h with
  | some (.val a, μ), h => exact fun ρ2 G2 H2 s2 p2 R => i _ _ _ _ _ s2 p2 R (h ρ2 G2 H2 s2 p2 R)
  | some (.exc x, μ), h => exact h
theorem KE.bind (h : KE T B σ env W Pb ρ G (bindR r f)) : KE T B σ env W (fun ρ1 G1 _ μ1 a => KE T B σ env W Pb ρ1 G1 (f a μ1)) ρ G r := by
  match r, h with
  | some (.val a, μ), h => exact fun ρ2 G2 H2 s2 p2 R => KE.weak (r := f a μ) h s2 p2
  | some (.exc x, μ), h => exact h
end

/-! ### holding and freezing -/
def hold : D → D
  | .new l => .lst l
  | d => d
def nobor : D → Bool
  | .bor _ => false
  | _ => true
section
variable {T : Tx} {B : Bs} {ρ ρ' : List Addr} {G G' H H' : Hp} {σ : L2.St} {env : DEnv} {μ : Mu}
theorem RepX.hold {v : V} {d : D} (h : RepX T B ρ G H σ env v d) (R : RD T B ρ G H σ env μ) : ∃ G', Same G G' ∧ RD T B ρ G' H σ env μ ∧ HeldR T ρ G' σ env v (hold d) := by
  cases d with
  | new l =>
    obtain ⟨p, vs, rfl, hp, r, z, gn, pn, bn, no, nx⟩ := h
    obtain ⟨G', s, g, R'⟩ := R.freeze hp pn bn no nx
    refine ⟨G', s, R', ?_⟩
    show Rep T ρ G' _ (.lst l)
    unfold Rep
    exact ⟨p, vs, rfl, g, z, r.mono s (.refl _)⟩
  | _ => exact ⟨G, fun _ _ h => h, R, h⟩
theorem HeldR.rep {v : V} {d : D} (h : HeldR T ρ G σ env v d) (n : nobor d = true) : Rep T ρ G v d := by
  cases d with
  | bor l => cases n
  | _ => exact h
/-- arguments that are held -/
inductive HReps (T : Tx) (ρ : List Addr) (G : Hp) (σ : L2.St) (env : DEnv) : List V → List D → Prop where
  | nil : HReps T ρ G σ env [] []
  | cons {v : V} {d : D} {vs : List V} {ds : List D} : HeldR T ρ G σ env v d → HReps T ρ G σ env vs ds → HReps T ρ G σ env (v :: vs) (d :: ds)
theorem HReps.mono (s : Same G G') (p : Pre ρ ρ') {vs : List V} {ds : List D} (h : HReps T ρ G σ env vs ds) : HReps T ρ' G' σ env vs ds := by
  induction h with
  | nil => exact .nil
  | cons a _ ih => exact .cons (a.mono s p) ih
theorem HReps.reps {vs : List V} {ds : List D} (h : HReps T ρ G σ env vs ds) (n : ds.all nobor = true) : Reps T ρ G vs ds := by
  induction h with
  | nil => exact .nil
  | cons a _ ih =>
    simp only [List.all_cons, Bool.and_eq_true] at n
    exact .cons (a.rep n.1) (ih n.2)
theorem HReps.length {vs : List V} {ds : List D} (h : HReps T ρ G σ env vs ds) : vs.length = ds.length := by
  induction h with
  | nil => rfl
  | cons _ _ ih => simp [ih]
end

/-! ### the judgements -/
abbrev tx (X : Cx) : Tx := ⟨X.K, X.mg⟩
def PX (T : Tx) (B : Bs) (σ : L2.St) (env : DEnv) (Q : VK) : List Addr → Hp → Hp → Mu → D → Prop := fun ρ' G' H' _ d => ∀ v, RepX T B ρ' G' H' σ env v d → Q v H'
def rdE (T : Tx) (B : Bs) (W : WX) (m : DEx) : TE := fun σ H Q => ∃ ρ G env μ, RD T B ρ G H σ env μ ∧ KE T B σ env W (PX T B σ env Q) ρ G (m env μ)
structure DE (X : Cx) (B : Bs) (W : WX) (e : Expr) (m : DEx) : Prop where
  run : PE X e (rdE (tx X) B W m)
def rdT (T : Tx) (B : Bs) (W : WX) (m : DEnv → Mu → Res Bool) : TT := fun σ H Q => ∃ ρ G env μ, RD T B ρ G H σ env μ ∧ KE T B σ env W (fun _ _ H' _ b => Q b H') ρ G (m env μ)
structure DT (X : Cx) (B : Bs) (W : WX) (e : Expr) (m : DEnv → Mu → Res Bool) : Prop where
  run : PT X e (rdT (tx X) B W m)
structure DW (X : Cx) (B : Bs) (W : WX) (e : Expr) (m : DEnv → Mu → Res Bool) : Prop where
  run : PW X e (rdT (tx X) B W m)
def rdA (T : Tx) (B : Bs) (W : WX) (m : DEnv → Mu → Res (List D)) : TA := fun σ H Q => ∃ ρ G env μ, RD T B ρ G H σ env μ ∧ KE T B σ env W (fun ρ' G' H' _ ds => ∀ vs, HReps T ρ' G' σ env vs ds → Q vs H') ρ G (m env μ)
structure DA (X : Cx) (B : Bs) (W : WX) (es : List Expr) (m : DEnv → Mu → Res (List D)) : Prop where
  run : PA X es (rdA (tx X) B W m)
section
variable {X : Cx} {e : Expr} {es : List Expr}
theorem peImp {t t' : TE} (h : PE X e t) (i : ∀ σ H Q, t' σ H Q → t σ H Q) : PE X e t' := ⟨fun pins s σ H Q I q => h.run pins s σ H Q I (i σ H Q q)⟩
theorem ptImp {t t' : TT} (h : PT X e t) (i : ∀ σ H Q, t' σ H Q → t σ H Q) : PT X e t' := ⟨fun pins s σ H Q I q => h.run pins s σ H Q I (i σ H Q q)⟩
theorem pwImp {t t' : TT} (h : PW X e t) (i : ∀ σ H Q, t' σ H Q → t σ H Q) : PW X e t' := ⟨fun wh pins s σ H Q I q => h.run wh pins s σ H Q I (i σ H Q q)⟩
theorem paImp {t t' : TA} (h : PA X es t) (i : ∀ σ H Q, t' σ H Q → t σ H Q) : PA X es t' := ⟨fun pos pins s σ H Q I q => h.run pos pins s σ H Q I (i σ H Q q)⟩
end
/-- one evaluation, then the next -/
theorem rd_then {T : Tx} {B : Bs} {W : WX} {σ : L2.St} {env : DEnv} {β : Type} {Pb : List Addr → Hp → Hp → Mu → β → Prop} {ρ : List Addr} {G H : Hp} {μ : Mu} {m : DEx} {f : D → Mu → Res β} {Q : VK}
    (R : RD T B ρ G H σ env μ) (k : KE T B σ env W Pb ρ G (bindR (m env μ) f))
    (h : ∀ ρ1 G1 H1 μ1 x d, Same G G1 → Pre ρ ρ1 → RD T B ρ1 G1 H1 σ env μ1 → HeldR T ρ1 G1 σ env x (hold d) → KE T B σ env W Pb ρ1 G1 (f d μ1) → Q x H1) : rdE T B W m σ H Q := by
  refine ⟨ρ, G, env, μ, R, k.bind.imp fun ρ1 G1 H1 μ1 d s p R1 k1 x hx => ?_⟩
  obtain ⟨G2, s2, R2, h2⟩ := hx.hold R1
  exact h ρ1 G2 H1 μ1 x d (s.trans s2) p R2 h2 (k1.weak s2 (.refl _))
end Dv

/-! DvB: the rules of expressions. -/
namespace Dv
open PySem PySem.Spec PyProof.Rows L2
section
variable {X : Cx} {B : Bs} {W : WX} {e a b : Expr} {es : List Expr} {m ma mb : DEx} {ms : DEnv → Mu → Res (List D)} {pos : Pos}
/-! ### names and constants -/
def dVar (i : Nat) : DEx := fun env μ => match env[i]? with
  | some (.v d) => ret d μ
  | some (.own l) => ret (.bor l) μ
  | _ => none
def dC (d : D) : DEx := fun _ μ => ret d μ
theorem de_var {i : Nat} (h : PE X e (tVar i)) : DE X B W e (dVar i) := by
  refine ⟨peImp h fun σ H Q ⟨ρ, G, env, μ, R, k⟩ => ?_⟩
  unfold dVar at k
  cases hs : env[i]? with
  | none => rw [hs] at k; exact k.elim
  | some s =>
    rw [hs] at k
    have q := R.slot i s hs
    cases s with
    | no => exact k.elim
    | v d =>
      obtain ⟨v, hv, r⟩ := q
      exact ⟨v, hv, k ρ G H (fun _ _ h => h) (.refl _) R v (.ofR r)⟩
    | own l =>
      obtain ⟨p, vs, hv, _⟩ := q
      exact ⟨_, hv, k ρ G H (fun _ _ h => h) (.refl _) R (.ref p) ⟨i, p, hs, hv, rfl⟩⟩
theorem de_c {v : V} {d : D} (h : PE X e (tC v)) (r : ∀ ρ G, Rep (tx X) ρ G v d) : DE X B W e (dC d) := by
  refine ⟨peImp h fun σ H Q ⟨ρ, G, env, μ, R, k⟩ => ?_⟩
  exact k ρ G H (fun _ _ h => h) (.refl _) R v (.ofR (r ρ G))
theorem rep_int {T : Tx} {ρ : List Addr} {G : Hp} {i : Int} : Rep T ρ G (.int i) (.int i) := by unfold Rep; rfl
theorem rep_bl {T : Tx} {ρ : List Addr} {G : Hp} {i : Bool} : Rep T ρ G (.bl i) (.bl i) := by unfold Rep; rfl
theorem rep_str {T : Tx} {ρ : List Addr} {G : Hp} {i : Str} : Rep T ρ G (.str i) (.str i) := by unfold Rep; rfl
theorem rep_non {T : Tx} {ρ : List Addr} {G : Hp} : Rep T ρ G .non .non := by unfold Rep; rfl
theorem rep_ty {T : Tx} {ρ : List Addr} {G : Hp} {i : String} : Rep T ρ G (.ty i) (.ty i) := by unfold Rep; rfl
theorem de_int {i j pos} : DE X B W (.Constant (.int i) j pos) (dC (.int i)) := de_c pe_int fun _ _ => rep_int
theorem de_bl {i j pos} : DE X B W (.Constant (.bool i) j pos) (dC (.bl i)) := de_c pe_bl fun _ _ => rep_bl
theorem de_str {i j pos} : DE X B W (.Constant (.str i) j pos) (dC (.str i)) := de_c pe_str fun _ _ => rep_str
theorem de_non {j pos} : DE X B W (.Constant .none j pos) (dC .non) := de_c pe_non fun _ _ => rep_non

/-! ### operators -/
abbrev F2 := D → D → Mu → Res D
def dBin (f : F2) (ma mb : DEx) : DEx := fun env μ => bindR (ma env μ) fun d μ => bindR (mb env μ) fun d' μ => f (hold d) (hold d') μ
/-- an operation by values -/
def OpD (T : Tx) (r : R2) (f : F2) : Prop := ∀ (B : Bs) (W : WX) (σ : L2.St) (env : DEnv) (ρ : List Addr) (G H : Hp) (μ : Mu) (x y : V) (d d' : D) (Q : VK),
  RD T B ρ G H σ env μ → HeldR T ρ G σ env x d → HeldR T ρ G σ env y d' → KE T B σ env W (PX T B σ env Q) ρ G (f d d' μ) → r x y H Q
theorem rd_bin {T : Tx} {r : R2} {f : F2} (hf : OpD T r f) {σ : L2.St} {H : Hp} {Q : VK} (h : rdE T B W (dBin f ma mb) σ H Q) : tOp r (rdE T B W ma) (rdE T B W mb) σ H Q := by
  obtain ⟨ρ, G, env, μ, R, k⟩ := h
  refine rd_then (f := fun d μ => bindR (mb env μ) fun d' μ => f (hold d) (hold d') μ) R k fun ρ1 G1 H1 μ1 x d s p R1 hx k1 => ?_
  refine rd_then (f := fun d' μ => f (hold d) (hold d') μ) R1 k1 fun ρ2 G2 H2 μ2 y d' s2 p2 R2 hy k2 => ?_
  exact hf B W σ env ρ2 G2 H2 μ2 x y _ _ Q R2 (hx.mono s2 p2) hy k2
theorem de_op {op : Operator} {r : R2} {f : F2} (ho : OpR X (binaryOp op) r) (hf : OpD (tx X) r f) (ha : DE X B W a ma) (hb : DE X B W b mb) : DE X B W (.BinOp a op b pos) (dBin f ma mb) :=
  ⟨peImp (pe_op ho ha.run hb.run) fun _ _ _ h => rd_bin hf h⟩
theorem de_cmp {op : CmpOp} {r : R2} {f : F2} (ho : OpR X (compareOp op) r) (hf : OpD (tx X) r f) (ha : DE X B W a ma) (hb : DE X B W b mb) (hm : behindInMarks op b = false) : DE X B W (.Compare a [op] [b] pos) (dBin f ma mb) :=
  ⟨peImp (pe_cmpR ho ha.run hb.run hm) fun _ _ _ h => rd_bin hf h⟩
theorem de_ix {r : R2} {f : F2} (ho : IxR X r) (hf : OpD (tx X) r f) (ha : DE X B W a ma) (hb : DE X B W b mb) (hs : PlainIx b) : DE X B W (.Subscript a b pos) (dBin f ma mb) :=
  ⟨peImp (pe_ix ho ha.run hb.run hs) fun _ _ _ h => rd_bin hf h⟩
/-! ### arithmetic -/
theorem int_inv {T : Tx} {ρ : List Addr} {G : Hp} {σ : L2.St} {env : DEnv} {x : V} {i : Int} (h : HeldR T ρ G σ env x (.int i)) : x = .int i := by
  have h : Rep T ρ G x (.int i) := h
  unfold Rep at h; exact h
def fAdd : F2
  | .int i, .int j, μ => ret (.int (i + j)) μ
  | .tup l, .tup m, μ => if szl (l.length + m.length) then ret (.tup (l ++ m)) μ else none
  | .lst l, .lst m, μ => if szl (l.length + m.length) then ret (.new (l ++ m)) μ else none
  | .str x, .str y, μ => if szl (x.length + y.length) then ret (.str (x ++ y)) μ else none
  | _, _, _ => none
def rAddA (K : PySem.W.Frag) : R2 := fun x y H Q => rI0 (fun i j => .int (i + j)) x y H Q ∨ rCatA K x y H Q ∨ rCat x y H Q ∨ (∃ i j, x = .str i ∧ y = .str j ∧ i.length + j.length ≤ sizeLine ∧ Q (.str (i ++ j)) H)
theorem op_addA : OpR X (binaryOp .Add) (rAddA X.K) := op_add.or (op_catA.or (op_cat.or op_add_str))
theorem szl_line {n : Nat} (h : szl n) : n ≤ sizeLine := by rw [sizeLine_eq]; exact h
section
variable {T : Tx} {ρ : List Addr} {G H : Hp} {σ : L2.St} {env : DEnv} {μ : Mu} {x : V} {Q : VK}
theorem tup_inv {l : List D} (h : HeldR T ρ G σ env x (.tup l)) : ∃ a vs, x = .ref a ∧ SqG T.K G a vs ∧ szl l.length ∧ Reps T ρ G vs l := by
  have h : Rep T ρ G x (.tup l) := h
  unfold Rep at h; exact h
theorem lst_inv {l : List D} (h : HeldR T ρ G σ env x (.lst l)) : ∃ a vs, x = .ref a ∧ G a = some (.lst vs) ∧ szl l.length ∧ Reps T ρ G vs l := by
  have h : Rep T ρ G x (.lst l) := h
  unfold Rep at h; exact h
theorem str_inv {z : Str} (h : HeldR T ρ G σ env x (.str z)) : x = .str z := by
  have h : Rep T ρ G x (.str z) := h
  unfold Rep at h; exact h
theorem bl_inv {z : Bool} (h : HeldR T ρ G σ env x (.bl z)) : x = .bl z := by
  have h : Rep T ρ G x (.bl z) := h
  unfold Rep at h; exact h
theorem rep_tup {a : Addr} {vs : List V} {l : List D} (h : SqG T.K G a vs) (z : szl l.length) (r : Reps T ρ G vs l) : Rep T ρ G (.ref a) (.tup l) := by
  unfold Rep; exact ⟨a, vs, rfl, h, z, r⟩
theorem rep_lst {a : Addr} {vs : List V} {l : List D} (h : G a = some (.lst vs)) (z : szl l.length) (r : Reps T ρ G vs l) : Rep T ρ G (.ref a) (.lst l) := by
  unfold Rep; exact ⟨a, vs, rfl, h, z, r⟩
/-- nothing has happened -/
theorem KE.here {d : D} {v : V} (k : KE T B σ env W (PX T B σ env Q) ρ G (ret d μ)) (R : RD T B ρ G H σ env μ) (r : RepX T B ρ G H σ env v d) : Q v H := k ρ G H (fun _ _ h => h) (.refl _) R v r
/-- a new tuple -/
theorem KE.newT {l : List D} {vs : List V} (k : KE T B σ env W (PX T B σ env Q) ρ G (ret (.tup l) μ)) (R : RD T B ρ G H σ env μ) (r : Reps T ρ G vs l) (z : szl l.length) : ∀ p, H p = none → Q (.ref p) (upd H p (.tup vs)) := fun p n => by
  have gn := (R.fresh_ n).1
  exact k ρ _ _ (same_upd gn) (.refl _) (R.alloc n) _ (.ofR (rep_tup (.inl upd_same) z (r.mono (same_upd gn) (.refl _))))
/-- a new list -/
theorem KE.newL {l : List D} {vs : List V} (k : KE T B σ env W (PX T B σ env Q) ρ G (ret (.new l) μ)) (R : RD T B ρ G H σ env μ) (r : Reps T ρ G vs l) (z : szl l.length) : ∀ p, H p = none → Q (.ref p) (upd H p (.lst vs)) := fun p n => by
  obtain ⟨gn, pn, bn⟩ := R.fresh_ n
  refine k ρ G _ (fun _ _ h => h) (.refl _) (R.allocN n) _ ⟨p, vs, rfl, upd_same, r, z, gn, pn, bn, fun i l' e1 e2 => ?_, fun q hq e => ?_⟩
  · obtain ⟨q, us, e3, e4, _⟩ := R.slot i _ e1
    rw [e2] at e3; cases e3
    rw [n] at e4; cases e4
  · have e1 := (R.xo q hq).1
    rw [e, n] at e1; cases e1
/-- the list at a value -/
def seqL : D → Option (List D)
  | .lst l => some l
  | .bor l => some l
  | _ => none
theorem seqL_inv {d : D} {l : List D} (R : RD T B ρ G H σ env μ) (h : HeldR T ρ G σ env x d) (e : seqL d = some l) : ∃ a vs, x = .ref a ∧ H a = some (.lst vs) ∧ szl l.length ∧ Reps T ρ G vs l := by
  cases d with
  | lst l' =>
    cases e
    obtain ⟨a, vs, q, g, z, r⟩ := lst_inv h
    exact ⟨a, vs, q, R.gh _ _ g, z, r⟩
  | bor l' =>
    cases e
    obtain ⟨i, p, e1, e2, rfl⟩ := h
    obtain ⟨p', vs, e3, e4, r, z, _⟩ := R.slot i _ e1
    rw [e2] at e3; cases e3
    exact ⟨p, vs, rfl, e4, z, r⟩
  | _ => cases e
end
theorem opd_add : OpD (tx X) (rAddA X.K) fAdd := by
  intro B W σ env ρ G H μ x y d d' Q R hx hy k
  unfold fAdd at k
  split at k
  · exact .inl ⟨_, _, int_inv hx, int_inv hy, k.here R (.ofR rep_int)⟩
  · rename_i l m
    split at k
    · rename_i hz
      obtain ⟨a, vs, rfl, q, z, r⟩ := tup_inv hx
      obtain ⟨b, us, rfl, q', z', r'⟩ := tup_inv hy
      refine .inr (.inl ⟨a, b, vs, us, rfl, rfl, (sqG_mono R.gh q).sq, (sqG_mono R.gh q').sq, by rw [r.length, r'.length]; exact szl_line hz, fun e => ?_, fun _ e => ?_, fun _ _ => k.newT R (r.append r') (by simpa using hz)⟩)
      · subst e
        have e0 : l = [] := by have := r.length; simp at this; exact List.length_eq_zero_iff.mp this.symm
        subst e0
        exact k.here R (.ofR (rep_tup q' z' r'))
      · subst e
        have e0 : m = [] := by have := r'.length; simp at this; exact List.length_eq_zero_iff.mp this.symm
        subst e0
        rw [List.append_nil] at k
        exact k.here R (.ofR (rep_tup q z r))
    · exact k.elim
  · rename_i l m
    split at k
    · rename_i hz
      obtain ⟨a, vs, rfl, q, z, r⟩ := lst_inv hx
      obtain ⟨b, us, rfl, q', z', r'⟩ := lst_inv hy
      exact .inr (.inr (.inl ⟨a, b, vs, us, rfl, rfl, R.gh _ _ q, R.gh _ _ q', by rw [r.length, r'.length]; exact szl_line hz, k.newL R (r.append r') (by simpa using hz)⟩))
    · exact k.elim
  · split at k
    · rename_i hz
      exact .inr (.inr (.inr ⟨_, _, str_inv hx, str_inv hy, szl_line hz, k.here R (.ofR rep_str)⟩))
    · exact k.elim
  · exact k.elim
def fSub : F2
  | .int i, .int j, μ => ret (.int (i - j)) μ
  | _, _, _ => none
theorem opd_sub : OpD (tx X) (rI0 fun i j => .int (i - j)) fSub := by
  intro B W σ env ρ G H μ x y d d' Q R hx hy k
  unfold fSub at k
  split at k
  · exact ⟨_, _, int_inv hx, int_inv hy, k.here R (.ofR rep_int)⟩
  · exact k.elim
def fMod : F2
  | .int i, .int j, μ => if 0 < j then ret (.int (i % j)) μ else none
  | _, _, _ => none
theorem opd_mod : OpD (tx X) (rI (fun _ j => 0 < j) fun i j => .int (i % j)) fMod := by
  intro B W σ env ρ G H μ x y d d' Q R hx hy k
  unfold fMod at k
  split at k
  · split at k
    · rename_i h0
      exact ⟨_, _, int_inv hx, int_inv hy, h0, k.here R (.ofR rep_int)⟩
    · exact k.elim
  · exact k.elim
def fCmp (p : Int → Int → Bool) : F2
  | .int i, .int j, μ => ret (.bl (p i j)) μ
  | _, _, _ => none
theorem opd_cmp {p : Int → Int → Bool} : OpD (tx X) (rI0 fun i j => .bl (p i j)) (fCmp p) := by
  intro B W σ env ρ G H μ x y d d' Q R hx hy k
  unfold fCmp at k
  split at k
  · exact ⟨_, _, int_inv hx, int_inv hy, k.here R (.ofR rep_bl)⟩
  · exact k.elim
end
end Dv

/-! DvC: products, equality, membership, tests, arguments, displays, subscripts. -/
namespace Dv
open PySem PySem.Spec PyProof.Rows L2
/-! ### data for == -/
mutual
def toPy : D → PyData
  | .non => .none
  | .bl b => .bool b
  | .int i => .int i
  | .str x => .str x
  | .tup l => .tuple (toPys l)
  | .lst l => .list (toPys l)
  | .bor l => .list (toPys l)
  | .new _ => .none
  | .ty _ => .none
  | .scr _ => .none
  | .ins _ _ => .none
  | .exn _ _ => .none
  | .obj _ => .none
  | .glo _ => .none
  | .fn _ => .none
  | .rng _ _ => .none
  | .lam _ _ => .none
  | .clo _ _ => .none
def toPys : List D → List PyData
  | [] => []
  | d :: ds => toPy d :: toPys ds
end
/-- the data of at most n levels -/
def plainD : Nat → D → Bool
  | _, .non => true
  | _, .bl _ => true
  | _, .int _ => true
  | _, .str x => PyData.strOk x
  | n + 1, .tup l => l.all (plainD n)
  | n + 1, .lst l => l.all (plainD n)
  | n + 1, .bor l => l.all (plainD n)
  | _, _ => false
def deq (a b : D) : Bool := PyData.eqv (toPy a) (toPy b)
section
variable {X : Cx} {B : Bs} {W : WX} {T : Tx} {ρ : List Addr} {G H : Hp} {σ : L2.St} {env : DEnv} {μ : Mu} {x : V} {Q : VK}
mutual
theorem dp_of {K : PySem.W.Frag} (gh : Same G H) (hk : K = T.K) : ∀ {d : D} {v : V} {n : Nat}, plainD n d = true → Rep T ρ G v d → Dp K H v (toPy d)
  | .non, v, n, _, r => by unfold Rep at r; subst r; exact .non
  | .bl b, v, n, _, r => by unfold Rep at r; subst r; exact .bl b
  | .int b, v, n, _, r => by unfold Rep at r; subst r; exact .int b
  | .str b, v, n, _, r => by unfold Rep at r; subst r; exact .str b
  | .tup l, v, 0, h, r => by unfold plainD at h; cases h
  | .tup l, v, n + 1, h, r => by
    unfold Rep at r; obtain ⟨a, vs, rfl, q, z, rs⟩ := r
    unfold plainD at h
    subst hk
    unfold toPy
    exact .tup (sqG_mono gh q).sq (dps_of gh rfl h rs)
  | .lst l, v, 0, h, r => by unfold plainD at h; cases h
  | .lst l, v, n + 1, h, r => by
    unfold Rep at r; obtain ⟨a, vs, rfl, q, z, rs⟩ := r
    unfold plainD at h
    unfold toPy
    exact .lst (.of (gh _ _ q)) (dps_of gh hk h rs)
  | .bor l, v, n, h, r => by unfold Rep at r; exact r.elim
  | .new l, v, n, h, r => by unfold Rep at r; exact r.elim
  | .ty _, v, n, h, r => by unfold plainD at h; cases h
  | .scr _, v, n, h, r => by unfold plainD at h; cases h
  | .ins _ _, v, n, h, r => by unfold plainD at h; cases h
  | .exn _ _, v, n, h, r => by unfold plainD at h; cases h
  | .obj _, v, n, h, r => by unfold plainD at h; cases h
  | .glo _, v, n, h, r => by unfold plainD at h; cases h
  | .fn _, v, n, h, r => by unfold plainD at h; cases h
  | .rng _ _, v, n, h, r => by unfold plainD at h; cases h
  | .lam _ _, v, n, h, r => by unfold plainD at h; cases h
  | .clo _ _, v, n, h, r => by unfold plainD at h; cases h
theorem dps_of {K : PySem.W.Frag} (gh : Same G H) (hk : K = T.K) : ∀ {l : List D} {vs : List V} {n : Nat}, l.all (plainD n) = true → Reps T ρ G vs l → DpAll K H vs (toPys l)
  | [], vs, n, _, r => by unfold Reps at r; subst r; unfold toPys; exact .nil
  | d :: ds, vs, n, h, r => by
    unfold Reps at r; obtain ⟨v, t, rfl, q, rs⟩ := r
    simp only [List.all_cons, Bool.and_eq_true] at h
    unfold toPys
    exact .cons (dp_of gh hk h.1 q) (dps_of gh hk h.2 rs)
end
mutual
theorem lay_of : ∀ {d : D} {n : Nat}, plainD n d = true → (toPy d).canLay0 = true ∧ (toPy d).depth ≤ n
  | .non, n, _ => by simp [toPy, PyData.canLay0, PyData.depth]
  | .bl b, n, _ => by simp [toPy, PyData.canLay0, PyData.depth]
  | .int b, n, _ => by simp [toPy, PyData.canLay0, PyData.depth]
  | .str b, n, h => by unfold plainD at h; simp [toPy, PyData.canLay0, PyData.depth, h]
  | .tup l, 0, h => by unfold plainD at h; cases h
  | .tup l, n + 1, h => by
    unfold plainD at h
    have q := lays_of h
    unfold toPy
    simp only [PyData.canLay0, PyData.depth]
    exact ⟨q.1, by omega⟩
  | .lst l, 0, h => by unfold plainD at h; cases h
  | .lst l, n + 1, h => by
    unfold plainD at h
    have q := lays_of h
    unfold toPy
    simp only [PyData.canLay0, PyData.depth]
    exact ⟨q.1, by omega⟩
  | .bor l, 0, h => by unfold plainD at h; cases h
  | .bor l, n + 1, h => by
    unfold plainD at h
    have q := lays_of h
    unfold toPy
    simp only [PyData.canLay0, PyData.depth]
    exact ⟨q.1, by omega⟩
  | .new _, n, h => by unfold plainD at h; cases h
  | .ty _, n, h => by unfold plainD at h; cases h
  | .scr _, n, h => by unfold plainD at h; cases h
  | .ins _ _, n, h => by unfold plainD at h; cases h
  | .exn _ _, n, h => by unfold plainD at h; cases h
  | .obj _, n, h => by unfold plainD at h; cases h
  | .glo _, n, h => by unfold plainD at h; cases h
  | .fn _, n, h => by unfold plainD at h; cases h
  | .rng _ _, n, h => by unfold plainD at h; cases h
  | .lam _ _, n, h => by unfold plainD at h; cases h
  | .clo _ _, n, h => by unfold plainD at h; cases h
theorem lays_of : ∀ {l : List D} {n : Nat}, l.all (plainD n) = true → PyData.canLayAll0 (toPys l) = true ∧ PyData.depthAll (toPys l) ≤ n
  | [], n, _ => by simp [toPys, PyData.canLayAll0, PyData.depthAll]
  | d :: ds, n, h => by
    simp only [List.all_cons, Bool.and_eq_true] at h
    have q1 := lay_of h.1
    have q2 := lays_of h.2
    unfold toPys
    simp only [PyData.canLayAll0, PyData.depthAll]
    exact ⟨by rw [q1.1, q2.1]; rfl, by omega⟩
end
theorem shaped_of {d : D} (h : plainD 60 d = true) : SeqAt.shaped (toPy d) = true := by
  obtain ⟨a, b⟩ := lay_of h
  unfold SeqAt.shaped
  rw [a, decide_eq_true (by omega)]; rfl
theorem dp_held {K : PySem.W.Frag} (R : RD T B ρ G H σ env μ) (hk : K = T.K) {d : D} (h : plainD 60 d = true) (r : HeldR T ρ G σ env x d) : Dp K H x (toPy d) := by
  cases d with
  | bor l =>
    obtain ⟨a, vs, rfl, q, z, rs⟩ := seqL_inv (d := .bor l) R r rfl
    unfold plainD at h
    unfold toPy
    exact .lst (.of q) (dps_of R.gh hk h rs)
  | _ => exact dp_of (ρ := ρ) R.gh hk h r
def fEq : F2 := fun a b μ => if plainD 60 a && plainD 60 b then ret (.bl (deq a b)) μ else none
def fNe : F2 := fun a b μ => if plainD 60 a && plainD 60 b then ret (.bl (!deq a b)) μ else none
theorem opd_eq : OpD (tx X) (rEqD X.K) fEq := by
  intro B W σ env ρ G H μ x y d d' Q R hx hy k
  unfold fEq at k
  split at k
  · rename_i h
    simp only [Bool.and_eq_true] at h
    exact ⟨_, _, dp_held R rfl h.1 hx, dp_held R rfl h.2 hy, shaped_of h.1, shaped_of h.2, k.here R (.ofR rep_bl)⟩
  · exact k.elim
theorem opd_ne : OpD (tx X) (rNeD X.K) fNe := by
  intro B W σ env ρ G H μ x y d d' Q R hx hy k
  unfold fNe at k
  split at k
  · rename_i h
    simp only [Bool.and_eq_true] at h
    exact ⟨_, _, dp_held R rfl h.1 hx, dp_held R rfl h.2 hy, shaped_of h.1, shaped_of h.2, k.here R (.ofR rep_bl)⟩
  · exact k.elim
/-- x in a list -/
def fIn (neg : Bool) : F2 := fun a b μ => match seqL b with
  | some l => if plainD 59 a && l.all (plainD 59) then ret (.bl (neg != l.any fun z => deq z a)) μ else none
  | none => none
theorem plain_up : ∀ {d : D} {n : Nat}, plainD n d = true → plainD (n + 1) d = true
  | .non, n, _ => by unfold plainD; rfl
  | .bl b, n, _ => by unfold plainD; rfl
  | .int b, n, _ => by unfold plainD; rfl
  | .str b, n, h => by unfold plainD at h ⊢; exact h
  | .tup l, 0, h => by unfold plainD at h; cases h
  | .tup l, n + 1, h => by
    unfold plainD at h ⊢
    rw [List.all_eq_true] at h ⊢
    intro d hd
    have := List.sizeOf_lt_of_mem hd
    exact plain_up (h d hd)
  | .lst l, 0, h => by unfold plainD at h; cases h
  | .lst l, n + 1, h => by
    unfold plainD at h ⊢
    rw [List.all_eq_true] at h ⊢
    intro d hd
    have := List.sizeOf_lt_of_mem hd
    exact plain_up (h d hd)
  | .bor l, 0, h => by unfold plainD at h; cases h
  | .bor l, n + 1, h => by
    unfold plainD at h ⊢
    rw [List.all_eq_true] at h ⊢
    intro d hd
    have := List.sizeOf_lt_of_mem hd
    exact plain_up (h d hd)
  | .new _, n, h => by unfold plainD at h; cases h
  | .ty _, n, h => by unfold plainD at h; cases h
  | .scr _, n, h => by unfold plainD at h; cases h
  | .ins _ _, n, h => by unfold plainD at h; cases h
  | .exn _ _, n, h => by unfold plainD at h; cases h
  | .obj _, n, h => by unfold plainD at h; cases h
  | .glo _, n, h => by unfold plainD at h; cases h
  | .fn _, n, h => by unfold plainD at h; cases h
  | .rng _ _, n, h => by unfold plainD at h; cases h
  | .lam _ _, n, h => by unfold plainD at h; cases h
  | .clo _ _, n, h => by unfold plainD at h; cases h
theorem toPys_eq : ∀ l : List D, toPys l = l.map toPy
  | [] => by unfold toPys; rfl
  | d :: ds => by unfold toPys; rw [toPys_eq ds]; rfl
theorem any_py (l : List D) (a : D) : ((toPys l).any fun z => PyData.eqv z (toPy a)) = l.any fun z => deq z a := by
  rw [toPys_eq, List.any_map]; rfl
theorem shaped_list {l : List D} (h : l.all (plainD 59) = true) : SeqAt.shaped (.list (toPys l)) = true := by
  have : plainD 60 (.lst l) = true := by unfold plainD; exact h
  have q := shaped_of this
  unfold toPy at q
  exact q
theorem opd_notIn : OpD (tx X) (rNotInD X.K) (fIn true) := by
  intro B W σ env ρ G H μ x y d d' Q R hx hy k
  unfold fIn at k
  split at k
  · rename_i l hl
    split at k
    · rename_i h
      simp only [Bool.and_eq_true] at h
      obtain ⟨a, vs, rfl, q, z, rs⟩ := seqL_inv R hy hl
      refine ⟨_, _, dp_held R rfl (plain_up h.1) hx, .lst (.of q) (dps_of (T := tx X) R.gh rfl h.2 rs), shaped_of (plain_up h.1), shaped_list h.2, ?_⟩
      rw [any_py]
      simp only [Bool.true_bne] at k
      exact k.here R (.ofR rep_bl)
    · exact k.elim
  · exact k.elim
/-- is None -/
def isNon : D → Bool
  | .non => true
  | _ => false
theorem isNon_of {d : D} (r : HeldR T ρ G σ env x d) : decide (x = .non) = isNon d := by
  cases d with
  | non => have r : Rep T ρ G x .non := r; unfold Rep at r; subst r; rfl
  | bl b => rw [bl_inv r]; rfl
  | int b => rw [int_inv r]; rfl
  | str b => rw [str_inv r]; rfl
  | ty b => have r : Rep T ρ G x (.ty b) := r; unfold Rep at r; subst r; rfl
  | tup l => obtain ⟨a, vs, rfl, _⟩ := tup_inv r; rfl
  | lst l => obtain ⟨a, vs, rfl, _⟩ := lst_inv r; rfl
  | scr l => have r : Rep T ρ G x (.scr l) := r; unfold Rep at r; obtain ⟨a, vs, rfl, _⟩ := r; rfl
  | new l => have r : Rep T ρ G x (.new l) := r; unfold Rep at r; exact r.elim
  | bor l => obtain ⟨i, p, _, _, rfl⟩ := r; rfl
  | ins c fs => have r : Rep T ρ G x (.ins c fs) := r; unfold Rep at r; obtain ⟨a, C, dx, vf, rfl, _⟩ := r; rfl
  | exn c fs => have r : Rep T ρ G x (.exn c fs) := r; unfold Rep at r; obtain ⟨a, C, dx, vf, rfl, _⟩ := r; rfl
  | obj k => have r : Rep T ρ G x (.obj k) := r; unfold Rep at r; obtain ⟨a, rfl, _⟩ := r; rfl
  | glo k => have r : Rep T ρ G x (.glo k) := r; unfold Rep at r; obtain ⟨a, rfl, _⟩ := r; rfl
  | fn a => have r : Rep T ρ G x (.fn a) := r; unfold Rep at r; subst r; rfl
  | rng _ _ => have r : Rep T ρ G x (.rng _ _) := r; unfold Rep at r; obtain ⟨a, rfl, _⟩ := r; rfl
  | lam _ _ => have r : Rep T ρ G x (.lam _ _) := r; unfold Rep at r; obtain ⟨a, rfl, _⟩ := r; rfl
  | clo _ _ => have r : Rep T ρ G x (.clo _ _) := r; unfold Rep at r; obtain ⟨a, _, _, rfl, _⟩ := r; rfl
def fIs (neg : Bool) : F2
  | d, .non, μ => ret (.bl (neg != isNon d)) μ
  | _, _, _ => none
theorem opd_is : OpD (tx X) (fun x y H Q => y = .non ∧ Q (.bl (decide (x = .non))) H) (fIs false) := by
  intro B W σ env ρ G H μ x y d d' Q R hx hy k
  unfold fIs at k
  split at k
  · have hy : Rep (tx X) ρ G y .non := hy
    unfold Rep at hy; subst hy
    refine ⟨rfl, ?_⟩
    rw [isNon_of hx]
    simp only [Bool.false_bne] at k
    exact k.here R (.ofR rep_bl)
  · exact k.elim
/-! ### products -/
def cmul (i j : Int) : Bool := decide (i.natAbs < 18446744073709551616) || decide (j.natAbs < 18446744073709551616)
def repL {α : Type} (n : Nat) (l : List α) : List α := (List.replicate n l).flatten
def fMul : F2
  | .int i, .int j, μ => if cmul i j then ret (.int (i * j)) μ else none
  | .lst l, .int k, μ => if k.natAbs < 1000000 ∧ szl (l.length * k.toNat) then ret (.new (repL k.toNat l)) μ else none
  | .tup l, .int k, μ => if 1 ≤ k ∧ k ≤ 1000 ∧ l.length ≤ 1000 ∧ l ≠ [] then ret (.tup (repL k.toNat l)) μ else none
  | _, _, _ => none
theorem Reps.rep {vs : List V} {l : List D} (r : Reps T ρ G vs l) : ∀ n : Nat, Reps T ρ G (List.replicate n vs).flatten (repL n l)
  | 0 => by simp [repL, Reps]
  | n + 1 => by
    unfold repL
    rw [List.replicate_succ, List.flatten_cons, List.replicate_succ, List.flatten_cons]
    exact r.append (Reps.rep r n)
theorem repL_len {α : Type} (l : List α) : ∀ n : Nat, (repL n l).length = n * l.length
  | 0 => by simp [repL]
  | n + 1 => by
    have := repL_len l n
    unfold repL at this ⊢
    rw [List.replicate_succ, List.flatten_cons, List.length_append, this, Nat.succ_mul]; omega
theorem repL_one {α : Type} (l : List α) : repL 1 l = l := by simp [repL]
theorem tuple_mul_one (l : Addr) (items : Array Value) (n : Nat) (dd : Option Addr) (sl : Array (Option Value)) (u : Tok) :
    Meets (Builtin.«tuple.__mul__» ⟨[.ref l, .int 1 u], []⟩) (fun _ R s => s.heap.get? l = some { cls := .type "tuple", dict := dd, data := .seq items n, slots := sl } ∧ R (.ok (.ret (.ref l))) s) :=
  .of_wp fun prog w A R s h => by
    obtain ⟨hp, g, d, tk, os⟩ := s
    obtain ⟨hl, h⟩ := h
    have f1 := AutoSeq1.idx_int
    wp_walk using wpAny_loadPart' hl
    repeat (first
      | (refine wpAny_ite_false (decide_eq_false (by decide)) ?_; wp_walk using wpAny_loadPart' hl)
      | (refine wpAny_ite_true (decide_eq_true (by simp)) ?_; wp_walk using wpAny_loadPart' hl))
    exact ⟨_, rfl, h⟩
/-- a tuple times 1 is the tuple itself -/
theorem op_rep1 : OpR X (binaryOp .Mult) (fun x y H Q => ∃ l xs, x = .ref l ∧ y = .int 1 ∧ SqT X.K H l xs ∧ Q (.ref l) H) := by
  intro pins s σ H x y v u Q I rx ry h
  obtain ⟨l, xs, rfl, rfl, hT, q⟩ := h
  cases rx
  obtain ⟨t, rfl⟩ := ry
  obtain ⟨its, r, ⟨⟨cls, dd, data, sl⟩, ho, hc, n, hd⟩, hs⟩ := I.tuple hT
  simp only at hc hd
  subst hc hd
  refine wpAny_binaryOp_repeat_ref (T := "tuple") (U := "int") (by decide) ⟨_, ho, rfl⟩ (fun s' => typeIs_int s' 1 t) noFill_tuple_mul F.fills_int_mul F.slot_int_rmul repeat_tuple F.slot_int_index.lookup
    (call_meets F.slot_int_rmul (typeIs_int s 1 t) F.entry_int_rmul (F.args_int_rmul_2 _ _) (int_rmul_tuple 1 t l its.toArray n dd sl)
      ⟨ho, rfl, ⟨_, ho, rfl⟩, call_meets F.slot_tuple_mul ⟨_, ho, rfl⟩ F.entry_tuple_mul (F.args_tuple_mul_2 _ _) (tuple_mul_one l its.toArray n dd sl t) ⟨ho, ?_⟩⟩)
  exact ⟨.ref l, H, I.tok _, rfl, q⟩
def rMulA (K : PySem.W.Frag) : R2 := fun x y H Q => rI CMul (fun i j => .int (i * j)) x y H Q ∨ rRepT K x y H Q ∨ rRep x y H Q ∨ (∃ l xs, x = .ref l ∧ y = .int 1 ∧ SqT K H l xs ∧ Q (.ref l) H)
theorem op_mulA : OpR X (binaryOp .Mult) (rMulA X.K) := op_mul.or (op_repT.or (op_rep.or op_rep1))
theorem cmul_ok {i j : Int} (h : cmul i j = true) : CMul i j := by
  unfold cmul at h
  simp only [Bool.or_eq_true, decide_eq_true_eq] at h
  unfold CMul
  omega
theorem opd_mul : OpD (tx X) (rMulA X.K) fMul := by
  intro B W σ env ρ G H μ x y d d' Q R hx hy k
  unfold fMul at k
  split at k
  · split at k
    · rename_i h
      exact .inl ⟨_, _, int_inv hx, int_inv hy, cmul_ok h, k.here R (.ofR rep_int)⟩
    · exact k.elim
  · rename_i l n
    split at k
    · rename_i h
      obtain ⟨a, vs, rfl, q, z, r⟩ := lst_inv hx
      refine .inr (.inr (.inl ⟨a, n, vs, rfl, int_inv hy, R.gh _ _ q, by omega, by omega, by rw [r.length]; exact szl_line h.2, ?_⟩))
      exact k.newL R (r.rep _) (by rw [repL_len, Nat.mul_comm]; exact h.2)
    · exact k.elim
  · rename_i l n
    split at k
    · rename_i h
      obtain ⟨h1, h2, h3, h4⟩ := h
      obtain ⟨a, vs, rfl, q, z, r⟩ := tup_inv hx
      by_cases e : n = 1
      · subst e
        rw [show ((1 : Int).toNat) = 1 from rfl, repL_one] at k
        exact .inr (.inr (.inr ⟨a, vs, rfl, int_inv hy, (sqG_mono R.gh q).sq, k.here R (.ofR (rep_tup q z r))⟩))
      · have hl := r.length
        refine .inr (.inl ⟨a, n, vs, rfl, int_inv hy, (sqG_mono R.gh q).sq, fun e => h4 ?_, by omega, h2, by omega, k.newT R (r.rep _) ?_⟩)
        · subst e; exact List.length_eq_zero_iff.mp (by simpa using hl.symm)
        · rw [repL_len]
          have : n.toNat * l.length ≤ 1000 * 1000 := Nat.mul_le_mul (by omega) h3
          show _ ≤ 16777216
          omega
    · exact k.elim
  · exact k.elim

/-! ### chains, minus, not -/
def dChain (f g : F2) (ma mb mc : DEx) : DEx := fun env μ => bindR (ma env μ) fun d μ => bindR (mb env μ) fun d' μ => bindR (f (hold d) (hold d') μ) fun b μ => match b with
  | .bl true => bindR (mc env μ) fun d2 μ => g (hold d') (hold d2) μ
  | .bl false => ret (.bl false) μ
  | _ => none
theorem rd_chain {r r' : R2} {f g : F2} {ma mb mc : DEx} (hf : OpD (tx X) r f) (hg : OpD (tx X) r' g) {σ : L2.St} {H : Hp} {Q : VK} (h : rdE (tx X) B W (dChain f g ma mb mc) σ H Q) :
    tChain r r' (rdE (tx X) B W ma) (rdE (tx X) B W mb) (rdE (tx X) B W mc) σ H Q := by
  obtain ⟨ρ, G, env, μ, R, k⟩ := h
  refine rd_then (f := fun d μ => bindR (mb env μ) fun d' μ => bindR (f (hold d) (hold d') μ) fun b μ => match b with
    | .bl true => bindR (mc env μ) fun d2 μ => g (hold d') (hold d2) μ
    | .bl false => ret (.bl false) μ
    | _ => none) R k fun ρ1 G1 H1 μ1 x d s p R1 hx k1 => ?_
  refine rd_then (f := fun d' μ => bindR (f (hold d) (hold d') μ) fun b μ => match b with
    | .bl true => bindR (mc env μ) fun d2 μ => g (hold d') (hold d2) μ
    | .bl false => ret (.bl false) μ
    | _ => none) R1 k1 fun ρ2 G2 H2 μ2 y d' s2 p2 R2 hy k2 => ?_
  refine hf B W σ env ρ2 G2 H2 μ2 x y _ _ _ R2 (hx.mono s2 p2) hy (k2.bind.imp fun ρ3 G3 H3 μ3 z s3 p3 R3 k3 v hv => ?_)
  split at k3
  · have hv : Rep (tx X) ρ3 G3 v (.bl true) := hv
    unfold Rep at hv; subst hv
    refine ⟨true, rfl, ?_⟩
    rw [if_pos rfl]
    refine rd_then (f := fun d2 μ => g (hold d') (hold d2) μ) R3 k3 fun ρ4 G4 H4 μ4 w d2 s4 p4 R4 hw k4 => ?_
    exact hg B W σ env ρ4 G4 H4 μ4 y w _ _ Q R4 ((hy.mono s3 p3).mono s4 p4) hw k4
  · have hv : Rep (tx X) ρ3 G3 v (.bl false) := hv
    unfold Rep at hv; subst hv
    refine ⟨false, rfl, ?_⟩
    rw [if_neg (by decide)]
    exact KE.here (T := tx X) k3 R3 (.ofR rep_bl)
  · exact k3.elim
theorem de_chain {a b c : Expr} {ma mb mc : DEx} {pos : Pos} {op op' : CmpOp} {r r' : R2} {f g : F2} (ho : OpR X (compareOp op) r) (hf : OpD (tx X) r f) (ho' : OpR X (compareOp op') r') (hg : OpD (tx X) r' g) (ha : DE X B W a ma) (hb : DE X B W b mb) (hc : DE X B W c mc)
    (hm : lastMarks [op, op'] [b, c] = false) : DE X B W (.Compare a [op, op'] [b, c] pos) (dChain f g ma mb mc) :=
  ⟨peImp (pe_chain ho ho' ha.run hb.run hc.run hm) fun σ H Q h => rd_chain hf hg h⟩
/-! ### tests -/
def fTest : D → Mu → Res Bool
  | .bl b, μ => ret b μ
  | _, _ => none
/-- an expression that gives a bool, as a test -/
def dTest (m : DEx) : DEnv → Mu → Res Bool := fun env μ => bindR (m env μ) fTest
theorem dt_val {e : Expr} {m : DEx} (h : DE X B W e m) (he : ∀ whole, isTrue e X.env whole = (do let v ← whole; standAt e.pos; holding [v] (truthy v))) : DT X B W e (dTest m) := by
  refine ⟨ptImp (pt_val h.run he) fun σ H Q ⟨ρ, G, env, μ, R, k⟩ => ?_⟩
  refine rd_then (f := fTest) R k fun ρ1 G1 H1 μ1 x d s p R1 hx k1 => ?_
  unfold fTest at k1
  split at k1
  · exact ⟨_, bl_inv hx, k1 ρ1 G1 H1 (fun _ _ h => h) (.refl _) R1⟩
  · exact k1.elim
theorem dt_cmp {a b : Expr} {ma mb : DEx} {pos : Pos} {op : CmpOp} {r : R2} {f : F2} (ho : OpR X (compareOp op) r) (hf : OpD (tx X) r f) (ha : DE X B W a ma) (hb : DE X B W b mb) (hm : behindInMarks op b = false) : DT X B W (.Compare a [op] [b] pos) (dTest (dBin f ma mb)) := by
  refine ⟨ptImp (pt_cmpR ho ha.run hb.run hm) fun σ H Q ⟨ρ, G, env, μ, R, k⟩ => ?_⟩
  show tOp r _ _ σ H _
  refine rd_bin hf ⟨ρ, G, env, μ, R, ?_⟩
  refine (KE.bind (f := fTest) k).imp fun ρ1 G1 H1 μ1 d s p R1 k1 v hv => ?_
  unfold fTest at k1
  split at k1
  · have hv : Rep (tx X) ρ1 G1 v (.bl _) := hv
    unfold Rep at hv
    exact ⟨_, hv, k1 ρ1 G1 H1 (fun _ _ h => h) (.refl _) R1⟩
  · exact k1.elim
def dNotT (m : DEnv → Mu → Res Bool) : DEnv → Mu → Res Bool := fun env μ => bindR (m env μ) fun b μ => ret (!b) μ
theorem dt_not {a : Expr} {m : DEnv → Mu → Res Bool} {pos : Pos} (h : DT X B W a m) : DT X B W (.UnaryOp .Not a pos) (dNotT m) := by
  refine ⟨ptImp (pt_not h.run) fun σ H Q ⟨ρ, G, env, μ, R, k⟩ => ⟨ρ, G, env, μ, R, k.bind.imp fun ρ1 G1 H1 μ1 b s p R1 k1 => ?_⟩⟩
  exact k1 ρ1 G1 H1 (fun _ _ h => h) (.refl _) R1
def dAndT (m n : DEnv → Mu → Res Bool) : DEnv → Mu → Res Bool := fun env μ => bindR (m env μ) fun b μ => if b = true then n env μ else ret false μ
def dOrT (m n : DEnv → Mu → Res Bool) : DEnv → Mu → Res Bool := fun env μ => bindR (m env μ) fun b μ => if b = true then ret true μ else n env μ
section
variable {a b : Expr} {rest : List Expr} {m n : DEnv → Mu → Res Bool} {pos : Pos}
theorem dw_and1 (h : DT X B W a m) : DW X B W (.BoolOp .And [a] pos) m := ⟨pw_and1 h.run⟩
theorem dw_or1 (h : DT X B W a m) : DW X B W (.BoolOp .Or [a] pos) m := ⟨pw_or1 h.run⟩
theorem dw_and (h : DT X B W a m) (g : DW X B W (.BoolOp .And (b :: rest) pos) n) : DW X B W (.BoolOp .And (a :: b :: rest) pos) (dAndT m n) := by
  refine ⟨pwImp (pw_and h.run g.run) fun σ H Q ⟨ρ, G, env, μ, R, k⟩ => ⟨ρ, G, env, μ, R, k.bind.imp fun ρ1 G1 H1 μ1 b s p R1 k1 => ?_⟩⟩
  cases b with
  | true => exact ⟨ρ1, G1, env, μ1, R1, k1⟩
  | false => exact k1 ρ1 G1 H1 (fun _ _ h => h) (.refl _) R1
theorem dw_or (h : DT X B W a m) (g : DW X B W (.BoolOp .Or (b :: rest) pos) n) : DW X B W (.BoolOp .Or (a :: b :: rest) pos) (dOrT m n) := by
  refine ⟨pwImp (pw_or h.run g.run) fun σ H Q ⟨ρ, G, env, μ, R, k⟩ => ⟨ρ, G, env, μ, R, k.bind.imp fun ρ1 G1 H1 μ1 b s p R1 k1 => ?_⟩⟩
  cases b with
  | false => exact ⟨ρ1, G1, env, μ1, R1, k1⟩
  | true => exact k1 ρ1 G1 H1 (fun _ _ h => h) (.refl _) R1
theorem dw_t (h : DW X B W a m) : DT X B W a m := ⟨h.run.pt⟩
end
/-! ### and, or, not, a choice, as values -/
def dAndV (ma mb : DEx) : DEx := fun env μ => bindR (ma env μ) fun d μ => match d with
  | .bl true => mb env μ
  | .bl false => ret (.bl false) μ
  | _ => none
def dOrV (ma mb : DEx) : DEx := fun env μ => bindR (ma env μ) fun d μ => match d with
  | .bl false => mb env μ
  | .bl true => ret (.bl true) μ
  | _ => none
def dNotV (ma : DEx) : DEx := fun env μ => bindR (ma env μ) fun d μ => match d with
  | .bl b => ret (.bl (!b)) μ
  | _ => none
def dIf (t : DEnv → Mu → Res Bool) (ma mb : DEx) : DEx := fun env μ => bindR (t env μ) fun b μ => if b = true then ma env μ else mb env μ
section
variable {a b c : Expr} {rest : List Expr} {ma mb : DEx} {t : DEnv → Mu → Res Bool} {pos : Pos}
theorem repx_bl {v : V} {z : Bool} (h : RepX T B ρ G H σ env v (.bl z)) : v = .bl z := by
  have h : Rep T ρ G v (.bl z) := h
  unfold Rep at h; exact h
theorem de_one {op} (h : DE X B W a ma) : DE X B W (.BoolOp op [a] pos) ma := ⟨pe_one h.run⟩
theorem de_and (h : DE X B W a ma) (g : DE X B W (.BoolOp .And (b :: rest) pos) mb) : DE X B W (.BoolOp .And (a :: b :: rest) pos) (dAndV ma mb) := by
  refine ⟨peImp (pe_and h.run g.run) fun σ H Q ⟨ρ, G, env, μ, R, k⟩ => ⟨ρ, G, env, μ, R, k.bind.imp fun ρ1 G1 H1 μ1 d s p R1 k1 v hv => ?_⟩⟩
  split at k1
  · exact ⟨true, repx_bl hv, by rw [if_pos rfl]; exact ⟨ρ1, G1, env, μ1, R1, k1⟩⟩
  · exact ⟨false, repx_bl hv, by rw [if_neg (by decide)]; exact KE.here (T := tx X) k1 R1 (.ofR rep_bl)⟩
  · exact k1.elim
theorem de_not (h : DE X B W a ma) : DE X B W (.UnaryOp .Not a pos) (dNotV ma) := by
  refine ⟨peImp (pe_not h.run) fun σ H Q ⟨ρ, G, env, μ, R, k⟩ => ⟨ρ, G, env, μ, R, k.bind.imp fun ρ1 G1 H1 μ1 d s p R1 k1 v hv => ?_⟩⟩
  split at k1
  · exact ⟨_, repx_bl hv, KE.here (T := tx X) k1 R1 (.ofR rep_bl)⟩
  · exact k1.elim
theorem de_if (h : DT X B W c t) (ha : DE X B W a ma) (hb : DE X B W b mb) : DE X B W (.IfExp c a b pos) (dIf t ma mb) := by
  refine ⟨peImp (pe_ifExp h.run ha.run hb.run) fun σ H Q ⟨ρ, G, env, μ, R, k⟩ => ⟨ρ, G, env, μ, R, k.bind.imp fun ρ1 G1 H1 μ1 b s p R1 k1 => ?_⟩⟩
  cases b with
  | true => exact ⟨ρ1, G1, env, μ1, R1, k1⟩
  | false => exact ⟨ρ1, G1, env, μ1, R1, k1⟩
end
/-! ### arguments, displays -/
def dNil : DEnv → Mu → Res (List D) := fun _ μ => ret [] μ
def dCons (m : DEx) (n : DEnv → Mu → Res (List D)) : DEnv → Mu → Res (List D) := fun env μ => bindR (m env μ) fun d μ => bindR (n env μ) fun ds μ => ret (hold d :: ds) μ
section
variable {e : Expr} {es : List Expr} {m : DEx} {n : DEnv → Mu → Res (List D)} {pos : Pos}
theorem da_nil : DA X B W [] dNil := ⟨paImp pa_nil fun σ H Q ⟨ρ, G, env, μ, R, k⟩ => k ρ G H (fun _ _ h => h) (.refl _) R [] .nil⟩
theorem da_cons (h : DE X B W e m) (g : DA X B W es n) (hs : starEach (e :: es) X.env = (false, eval e X.env) :: starEach es X.env := by rfl) : DA X B W (e :: es) (dCons m n) := by
  refine ⟨paImp (pa_cons h.run g.run hs) fun σ H Q ⟨ρ, G, env, μ, R, k⟩ => ?_⟩
  refine rd_then (f := fun d μ => bindR (n env μ) fun ds μ => ret (hold d :: ds) μ) R k fun ρ1 G1 H1 μ1 x d s p R1 hx k1 => ?_
  refine ⟨ρ1, G1, env, μ1, R1, (KE.bind (f := fun ds μ => ret (hold d :: ds) μ) k1).imp fun ρ2 G2 H2 μ2 ds s2 p2 R2 k2 vs hvs => ?_⟩
  exact k2 ρ2 G2 H2 (fun _ _ h => h) (.refl _) R2 _ (.cons (hx.mono s2 p2) hvs)
def fTup (l : List D) (μ : Mu) : Res D := if l.all nobor = true ∧ szl l.length then ret (.tup l) μ else none
def fLst (l : List D) (μ : Mu) : Res D := if l.all nobor = true ∧ szl l.length then ret (.new l) μ else none
def dTup (n : DEnv → Mu → Res (List D)) : DEx := fun env μ => bindR (n env μ) fTup
def dLst (n : DEnv → Mu → Res (List D)) : DEx := fun env μ => bindR (n env μ) fLst
theorem de_tup {x1} (h : DA X B W es n) : DE X B W (.Tuple es x1 pos) (dTup n) := by
  refine ⟨peImp (pe_tup h.run) fun σ H Q ⟨ρ, G, env, μ, R, k⟩ => ⟨ρ, G, env, μ, R, (KE.bind (f := fTup) k).imp fun ρ1 G1 H1 μ1 ds s p R1 k1 vs hvs => ?_⟩⟩
  unfold fTup at k1
  split at k1
  · rename_i hz
    have r := hvs.reps hz.1
    exact ⟨by rw [r.length]; exact szl_line hz.2, k1.newT R1 r hz.2⟩
  · exact k1.elim
theorem de_lst (h : DA X B W es n) : DE X B W (.List es pos) (dLst n) := by
  refine ⟨peImp (pe_lst h.run) fun σ H Q ⟨ρ, G, env, μ, R, k⟩ => ⟨ρ, G, env, μ, R, (KE.bind (f := fLst) k).imp fun ρ1 G1 H1 μ1 ds s p R1 k1 vs hvs => ?_⟩⟩
  unfold fLst at k1
  split at k1
  · rename_i hz
    have r := hvs.reps hz.1
    exact ⟨by rw [r.length]; exact szl_line hz.2, k1.newL R1 r hz.2⟩
  · exact k1.elim
end
end
end Dv

/-! DvD: what is walked: lists, tuples, ranges, texts; zip and enumerate of any mix. -/
namespace Dv
open PySem PySem.Spec PyProof.Rows L2
/-! ### sources: a list or a tuple -/
def atS : Bool → Heap → Addr → Addr → Nat → Prop
  | true, h, it, a, i => h.IsListIter it a i
  | false, h, it, a, i => h.IsTupleIter it a i
def hasS : Bool → Heap → Addr → Array Value → Prop
  | true, h, a, xs => h.IsList a xs
  | false, h, a, xs => h.IsTuple a xs
def SqS (K : PySem.W.Frag) (H : Hp) : Bool → Addr → List V → Prop
  | true, a, xs => SqL K H a xs
  | false, a, xs => SqT K H a xs
theorem drawsS {prog : Program} {w : World} {A : Around} (hh : A.handled = none) (k : Bool) (it a : Addr) (hne : a ≠ it) (items : Array Value) :
    Draws prog w A it [it, a] items.size (fun i v => items[i]? = some v) (fun i h => atS k h it a i ∧ hasS k h a items) := by
  cases k with
  | true => exact Draws.list hh it a hne items
  | false => exact Draws.tuple hh it a hne items
def objS (k : Bool) (a : Addr) : Obj := { cls := .type (if k then "list_iterator" else "tuple_iterator"), data := .fields #[.ref a, .int 0 0] }
theorem beginsS (k : Bool) (a : Addr) (items : Array Value) : Begins (.ref a) (objS k a) fun h => hasS k h a items := by
  cases k with
  | true => exact begins_list a items
  | false => exact begins_tuple a items
section
variable {X : Cx} {pins : List (Addr × Obj)} {σ : L2.St} {H : Hp} {s : Shared} {a : Addr} {xs ys : List V}
theorem hasS_of (I : Inv X pins σ H s) {k : Bool} (h : SqS X.K H k a xs) : ∃ its : List Value, Vals xs its ∧ hasS k s.heap a its.toArray ∧ xs.length ≤ sizeLine := by
  cases k with
  | true =>
    obtain ⟨its, r, p, z⟩ := I.list h
    exact ⟨its, r, p.isList, z⟩
  | false =>
    obtain ⟨its, r, p, z⟩ := I.tuple h
    exact ⟨its, r, p, z⟩
theorem sqS_inj (I : Inv X pins σ H s) {k : Bool} (h : SqS X.K H k a xs) (h' : SqS X.K H k a ys) : xs = ys := by
  cases k with
  | true => exact I.list_inj h h'
  | false => exact I.tuple_inj h h'
end
theorem atS_at {k : Bool} {h h' : Heap} {it a : Addr} {i : Nat} (x : atS k h it a i) (e : ∀ o, h.get? it = some o → h'.get? it = some o) : atS k h' it a i := by
  cases k with
  | true => exact Heap.IsListIter.at x e
  | false => exact Heap.IsTupleIter.at x e
theorem atS_obj {k : Bool} {h : Heap} {it a : Addr} {i : Nat} (x : atS k h it a i) : ∃ o, h.get? it = some o ∧ ∀ v, o.data ≠ .cell v := by
  cases k with
  | true =>
    obtain ⟨o, e, _, d⟩ := x
    exact ⟨o, e, fun v z => by rw [d] at z; cases z⟩
  | false =>
    obtain ⟨o, e, _, d⟩ := x
    exact ⟨o, e, fun v z => by rw [d] at z; cases z⟩
theorem atS_new {k : Bool} {h : Heap} {it a : Addr} (e : h.get? it = some (objS k a)) : atS k h it a 0 := by
  cases k with
  | true => exact ⟨_, e, rfl, rfl⟩
  | false => exact ⟨_, e, rfl, rfl⟩
/-! ### zip of two sources -/
def ItZ (K : PySem.W.Frag) (k1 k2 : Bool) (a b : Addr) : It :=
  ⟨fun i H => ∃ (xs ys : List V) (x y : V), SqS K H k1 a xs ∧ SqS K H k2 b ys ∧ xs[i]? = some x ∧ ys[i]? = some y,
    fun i H v H' => ∃ T x y, v = .ref T ∧ H T = none ∧ H' = upd H T (.tup [x, y]) ∧ (∀ xs, SqS K H k1 a xs → xs[i]? = some x) ∧ ∀ ys, SqS K H k2 b ys → ys[i]? = some y,
    fun i H => ∃ xs ys : List V, SqS K H k1 a xs ∧ SqS K H k2 b ys ∧ min xs.length ys.length = i⟩
/-- a pair that is told at T -/
theorem pair_new {P : Program} {w : World} {H : Hp} {h : Heap} {T : Addr} {x y : V} {u v : Value} (hT : h.IsTuple T #[u, v]) (ru : RelV x u) (rv : RelV y v) : ObjOk P w (upd H T (.tup [x, y])) h T (.tup [x, y]) :=
  ⟨by show 2 ≤ sizeLine; decide, [u, v], .cons ru (.cons rv .nil), hT⟩
theorem turnZ {P : Program} {w : World} {K : PySem.W.Frag} {elts : List Expr} {kk : Nat} {tpos : Pos} {k1 k2 : Bool} {a b z TI TO i1 i2 : Addr} (D : ZipSep2 z TI TO i1 i2 [i1, a] [i2, b]) (n1 : a ≠ i1) (n2 : b ≠ i2) :
    Turn P w K (.Tuple elts kk tpos) (ItZ K k1 k2 a b) [z, TI, TO, i1, i2] z (fun i h => IsZip h z TI TO .none ∧ IsTupOf2 h TI (.ref i1) (.ref i2) ∧ (∃ x y, IsTupOf2 h TO x y) ∧ atS k1 h i1 a i ∧ atS k2 h i2 b i) where
  mem := by simp
  obj := fun i h st c hc => by
    obtain ⟨hz, hTI, ⟨x, y, hTO⟩, h1, h2⟩ := st
    have e' : c = z ∨ c = TI ∨ c = TO ∨ c = i1 ∨ c = i2 := by simpa using hc
    rcases e' with q | q | q | q | q
    · rw [q]; exact ⟨_, hz, fun v q => nomatch q⟩
    · rw [q]; exact ⟨_, hTI, fun v q => nomatch q⟩
    · rw [q]; exact ⟨_, hTO, fun v q => nomatch q⟩
    · rw [q]; exact atS_obj h1
    · rw [q]; exact atS_obj h2
  keep := fun i h h' st k => by
    obtain ⟨hz, hTI, ⟨x, y, hTO⟩, h1, h2⟩ := st
    exact ⟨k z (by simp) _ hz, k TI (by simp) _ hTI, ⟨x, y, k TO (by simp) _ hTO⟩, atS_at h1 fun o q => k i1 (by simp) o q, atS_at h2 fun o q => k i2 (by simp) o q⟩
  item := by
    intro X hP hw hK hc i pins s σ H E I hf st hg
    subst hP hw hK
    obtain ⟨hz, hTI, hTO, h1, h2⟩ := st
    obtain ⟨xs, ys, x, y, hqx, hqy, hx, hy⟩ := hg
    obtain ⟨its, rv, p, _⟩ := hasS_of I hqx
    obtain ⟨its2, rv2, p2, _⟩ := hasS_of I hqy
    have hh : X.A.in1.handled = none := I.ok.hd hc
    have l1 := rv.length
    have l2 := rv2.length
    have b1 := (List.getElem?_eq_some_iff.mp hx).1
    have b2 := (List.getElem?_eq_some_iff.mp hy).1
    refine (GoesN.zip2 (prog := X.prog) (w := X.w) (A := X.A) (elts := elts) (x1 := kk) (pos := tpos) D (drawsS hh k1 i1 a n1 its.toArray) (drawsS hh k2 i2 b n2 its2.toArray)).goes i s _ E (by simp only [List.size_toArray]; omega) ⟨hz, hTI, hTO, ⟨h1, p⟩, ⟨h2, p2⟩⟩ fun v h' tk hY st' hk _ => ?_
    obtain ⟨T, u, u2, rfl, hT, e1, e2, hTT⟩ := hY
    obtain ⟨z', TI', TO', ⟨h1', _⟩, ⟨h2', _⟩⟩ := st'
    have ru : RelV x u := by
      obtain ⟨u', q1, q2⟩ := rv.get hx
      have : its[i]? = some u := by simpa using e1
      rw [this] at q1; cases q1; exact q2
    have ru2 : RelV y u2 := by
      obtain ⟨u', q1, q2⟩ := rv2.get hy
      have : its2[i]? = some u2 := by simpa using e2
      rw [this] at q1; cases q1; exact q2
    have I1 : Inv X pins σ (upd H T (.tup [x, y])) { s with heap := h', toks := tk } :=
      Inv.turnedNew (ch := [z, TO, i1, i2]) I (fun c o hb q => hk c o hb q) (fun c hc => hf c (by simp at hc ⊢; rcases hc with q | q | q | q <;> simp [q])) hT (pair_new hTT ru ru2)
    refine ⟨.ref T, _, I1, rfl, ⟨T, x, y, rfl, I.hok.fresh hT, rfl, fun l hl => by rw [sqS_inj I hl hqx]; exact hx, fun l hl => by rw [sqS_inj I hl hqy]; exact hy⟩, ⟨z', TI', TO', h1', h2'⟩, fun c hcm => ?_⟩
    have hlt : c < s.heap.objs.size := by
      obtain ⟨o, e, _⟩ : ∃ o, s.heap.get? c = some o ∧ True := by
        have e' : c = z ∨ c = TI ∨ c = TO ∨ c = i1 ∨ c = i2 := by simpa using hcm
        obtain ⟨x0, y0, hTO⟩ := hTO
        rcases e' with q | q | q | q | q
        · rw [q]; exact ⟨_, hz, trivial⟩
        · rw [q]; exact ⟨_, hTI, trivial⟩
        · rw [q]; exact ⟨_, hTO, trivial⟩
        · rw [q]; obtain ⟨o, e, _⟩ := atS_obj h1; exact ⟨o, e, trivial⟩
        · rw [q]; obtain ⟨o, e, _⟩ := atS_obj h2; exact ⟨o, e, trivial⟩
      exact Heap.lt_size e
    rw [upd_ne (Nat.ne_of_lt (Nat.lt_of_lt_of_le hlt hT))]
    exact (hf c hcm).1
  done := by
    intro X hP hw hK hc i pins s σ H E I hf st hg
    subst hP hw hK
    obtain ⟨hz, hTI, hTO, h1, h2⟩ := st
    obtain ⟨xs, ys, hqx, hqy, hend⟩ := hg
    obtain ⟨its, rv, p, _⟩ := hasS_of I hqx
    obtain ⟨its2, rv2, p2, _⟩ := hasS_of I hqy
    have hh : X.A.in1.handled = none := I.ok.hd hc
    have l1 := rv.length
    have l2 := rv2.length
    have e : min its.toArray.size its2.toArray.size = i := by simp only [List.size_toArray]; omega
    subst e
    exact (GoesN.zip2 (prog := X.prog) (w := X.w) (A := X.A) (elts := elts) (x1 := kk) (pos := tpos) D (drawsS hh k1 i1 a n1 its.toArray) (drawsS hh k2 i2 b n2 its2.toArray)).stops s _ E ⟨hz, hTI, hTO, ⟨h1, p⟩, ⟨h2, p2⟩⟩ fun h' tk hk _ =>
      Inv.turnedL (ch := [z, TO, i1, i2]) I (fun c o hb q => hk c o hb q) (fun c hc => hf c (by simp at hc ⊢; rcases hc with q | q | q | q <;> simp [q]))
  self := fun A i s Q E st h => wpAny_pyIter_zip st.1 h
def iZipS (K : PySem.W.Frag) (ta : TA) : TI := fun σ H R => ta σ H fun vs H1 => ∃ (k1 k2 : Bool) (a b : Addr) (xs ys : List V), vs = [.ref a, .ref b] ∧ SqS K H1 k1 a xs ∧ SqS K H1 k2 b ys ∧ R (ItZ K k1 k2 a b) H1
theorem hasS_lt {k : Bool} {h : Heap} {a : Addr} {xs : Array Value} (x : hasS k h a xs) : a < h.objs.size := by
  cases k with
  | true => obtain ⟨o, e, _⟩ := x; exact Heap.lt_size e
  | false => obtain ⟨o, e, _⟩ := x; exact Heap.lt_size e
theorem pi_zipS {X : Cx} {e e2 : Expr} {ta : TA} {p pos tpos : Pos} {elts : List Expr} {kk : Nat} (hg : Gl X "zip") (hm : X.mg "zip" = none) (ha : PA X [e, e2] ta)
    (hs : starEach [e, e2] X.env = (false, eval e X.env) :: starEach [e2] X.env := by rfl) (hpl : (backTo pos (starEach [e2] X.env)).any (·.1) = false := by rfl) :
    PI X (.Tuple elts kk tpos) (.Call (.Name "zip" p) [e, e2] [] pos) (iZipS X.K ta) := by
  refine ⟨fun pins s σ H R I h => ?_⟩
  refine Call_ (ld_blt I hg hm PyProof.Rows.boot_zip (PyProof.Rows.callWith_type1 (thn (ha.run pos pins s σ H _ I h) fun us s1 ⟨vs, H1, I1, r1, q1⟩ => ?_) hs hpl))
  obtain ⟨k1, k2, a, b, xs, ys, ex, hqx, hqy, q⟩ := q1
  subst ex
  obtain ⟨u, u2, rfl, ru, ru2⟩ := vals2 r1
  cases ru
  cases ru2
  obtain ⟨its, rv, p1, _⟩ := hasS_of I1 hqx
  obtain ⟨its2, rv2, p2, _⟩ := hasS_of I1 hqy
  have la := hasS_lt p1
  have lb := hasS_lt p2
  refine zip_begins2 (beginsS k1 a its.toArray) (beginsS k2 b its2.toArray) p1 p2 fun h' hz hTI hTO h1 h2 hsz hk => ?_
  refine wpAny_pyIter_zip hz ?_
  have I2 : Inv X pins σ H1 { s1 with heap := h' } := I1.kept (t' := s1.toks) hk
  refine ⟨_, [s1.heap.objs.size + 4, s1.heap.objs.size + 2, s1.heap.objs.size + 3, s1.heap.objs.size, s1.heap.objs.size + 1], _, _, H1, rfl, I2, turnZ (k1 := k1) (k2 := k2) (zip_sep2 (fp1 := [a]) (fp2 := [b]) (by simpa using la) (by simpa using lb)) (Nat.ne_of_lt la) (Nat.ne_of_lt (Nat.lt_succ_of_lt lb)),
    ⟨hz, hTI, ⟨_, _, hTO⟩, atS_new h1, atS_new h2⟩, fun c hc => ?_, q⟩
  have hle : s1.heap.objs.size ≤ c := by
    simp only [List.mem_cons, List.not_mem_nil, or_false] at hc
    rcases hc with z | z | z | z | z <;> (rw [z]; first | exact Nat.le_refl _ | exact Nat.le_add_right _ _)
  exact I1.fpOk hle (I1.hok.fresh hle)
/-! ### enumerate of a source -/
def ItE (K : PySem.W.Frag) (k : Bool) (a : Addr) : It :=
  ⟨fun i H => ∃ (xs : List V) (x : V), SqS K H k a xs ∧ xs[i]? = some x,
    fun i H v H' => ∃ T x, v = .ref T ∧ H T = none ∧ H' = upd H T (.tup [.int (i : Nat), x]) ∧ ∀ xs, SqS K H k a xs → xs[i]? = some x,
    fun i H => ∃ xs : List V, SqS K H k a xs ∧ xs.length = i⟩
theorem turnE {P : Program} {w : World} {K : PySem.W.Frag} {elts : List Expr} {kk : Nat} {tpos : Pos} {k : Bool} {a e it : Addr} (n1 : a ≠ it) (hei : e ≠ it) (hea : e ≠ a) :
    Turn P w K (.Tuple elts kk tpos) (ItE K k a) [e, it] e (fun i h => (∃ old, IsEnum h e it (0 + ((i : Nat) : Int)) old) ∧ atS k h it a i) where
  mem := by simp
  obj := fun i h st c hc => by
    obtain ⟨⟨old, he⟩, h1⟩ := st
    have e' : c = e ∨ c = it := by simpa using hc
    rcases e' with q | q
    · rw [q]; exact ⟨_, he, fun v q => nomatch q⟩
    · rw [q]; exact atS_obj h1
  keep := fun i h h' st k => by
    obtain ⟨⟨old, he⟩, h1⟩ := st
    exact ⟨⟨old, k e (by simp) _ he⟩, atS_at h1 fun o q => k it (by simp) o q⟩
  item := by
    intro X hP hw hK hc i pins s σ H E I hf st hg
    subst hP hw hK
    obtain ⟨he, h1⟩ := st
    obtain ⟨xs, x, hqx, hx⟩ := hg
    obtain ⟨its, rv, p, _⟩ := hasS_of I hqx
    have hh : X.A.in1.handled = none := I.ok.hd hc
    have l1 := rv.length
    have b1 := (List.getElem?_eq_some_iff.mp hx).1
    refine (GoesN.enumFrom (prog := X.prog) (w := X.w) (A := X.A) (elts := elts) (x1 := kk) (pos := tpos) 0 (drawsS hh k it a n1 its.toArray) e hei (by simp [hei, hea]) (by simp)).goes i s _ E (by simp only [List.size_toArray]; omega) ⟨he, h1, p⟩ fun v h' tk hY st' hk _ => ?_
    obtain ⟨T, t, u, rfl, hT, e1, hTT⟩ := hY
    obtain ⟨he', h1', _⟩ := st'
    have ru : RelV x u := by
      obtain ⟨u', q1, q2⟩ := rv.get hx
      have : its[i]? = some u := by simpa using e1
      rw [this] at q1; cases q1; exact q2
    have I1 : Inv X pins σ (upd H T (.tup [.int (i : Nat), x])) { s with heap := h', toks := tk } :=
      Inv.turnedNew (ch := [e, it]) I (fun c o hb q => hk c o hb q) hf hT (pair_new hTT ⟨t, by rw [Int.zero_add]⟩ ru)
    refine ⟨.ref T, _, I1, rfl, ⟨T, x, rfl, I.hok.fresh hT, rfl, fun l hl => by rw [sqS_inj I hl hqx]; exact hx⟩, ⟨he', h1'⟩, fun c hcm => ?_⟩
    have hlt : c < s.heap.objs.size := by
      obtain ⟨o, e, _⟩ : ∃ o, s.heap.get? c = some o ∧ True := by
        have e' : c = e ∨ c = it := by simpa using hcm
        obtain ⟨old, he⟩ := he
        rcases e' with q | q
        · rw [q]; exact ⟨_, he, trivial⟩
        · rw [q]; obtain ⟨o, e, _⟩ := atS_obj h1; exact ⟨o, e, trivial⟩
      exact Heap.lt_size e
    rw [upd_ne (Nat.ne_of_lt (Nat.lt_of_lt_of_le hlt hT))]
    exact (hf c hcm).1
  done := by
    intro X hP hw hK hc i pins s σ H E I hf st hg
    subst hP hw hK
    obtain ⟨he, h1⟩ := st
    obtain ⟨xs, hqx, hend⟩ := hg
    obtain ⟨its, rv, p, _⟩ := hasS_of I hqx
    have hh : X.A.in1.handled = none := I.ok.hd hc
    have l1 := rv.length
    have e : its.toArray.size = i := by simp only [List.size_toArray]; omega
    subst e
    exact (GoesN.enumFrom (prog := X.prog) (w := X.w) (A := X.A) (elts := elts) (x1 := kk) (pos := tpos) 0 (drawsS hh k it a n1 its.toArray) e hei (by simp [hei, hea]) (by simp)).stops s _ E ⟨he, h1, p⟩ fun h' tk hk _ =>
      Inv.turnedL (ch := [e, it]) I (fun c o hb q => hk c o hb q) hf
  self := fun A i s Q E st h => by
    obtain ⟨⟨old, he⟩, _⟩ := st
    exact wpAny_pyIter_enum he h
/-- enumerate(v), v by how its iterator begins -/
theorem meets_enum1 {v : Value} {o : Obj} {H : Heap → Prop} (B : Begins v o H) :
    Meets (Builtin.«enumerate.__new__» ⟨[.type "enumerate", v], []⟩) (fun _ R s => H s.heap ∧
      R (.ok (.ret (.ref (s.heap.push o).objs.size))) { s with heap := (s.heap.push o).push { cls := .type "enumerate", data := .fields #[.none, .bool false, .ref s.heap.objs.size, rawInt 0, .none, .none] } }) :=
  .of_wp fun prog w A R s h => by
    obtain ⟨hp, g, d, tk, os⟩ := s
    obtain ⟨h1, h⟩ := h
    have hsub := sub_enumerate
    have q1 : ∀ {A' : Around} {E' : Value → Shared → Prop} {Q' : Value → Shared → Prop}, Q' (.ref hp.objs.size) ⟨hp.push o, g, d, tk, os⟩ → wpAny (model prog w) A' (pyIter v) Q' E' ⟨hp, g, d, tk, os⟩ :=
      fun q => B.iter prog w _ _ ⟨hp, g, d, tk, os⟩ _ h1 q
    wp_walk using q1
    refine wpAny_stack_any fun st' => wpAny_pure ?_
    split
    · rename_i c' _ _ _ _ _
      cases (c' == Value.type "enumerate") <;> (wp_walk using q1; exact ⟨_, rfl, h⟩)
    · wp_walk using q1
      exact ⟨_, rfl, h⟩
theorem enum_begins1 {prog : Program} {w : World} {A : Around} {E : Value → Shared → Prop} {s : Shared} {v : Value} {o : Obj} {H : Heap → Prop} {Q : Value → Shared → Prop} (B : Begins v o H) (h1 : H s.heap)
    (h : ∀ h', IsEnum h' (s.heap.objs.size + 1) s.heap.objs.size 0 .none → h'.get? s.heap.objs.size = some o → h'.objs.size = s.heap.objs.size + 2 →
      (∀ b' o', s.heap.get? b' = some o' → h'.get? b' = some o') → Q (.ref (s.heap.objs.size + 1)) { s with heap := h' }) :
    wpAny (model prog w) A (call (.type "enumerate") [v]) Q E s := by
  refine callType_new F.called_enumerate (by decide) (F.typeCall_enumerate_1 _) (F.newCall_enumerate_1 _) (fun obj' => F.args_object_init_2 obj' _) F.entry_enumerate_new (meets_enum1 B) ⟨h1, ?_⟩
  have hz : (s.heap.push o).objs.size = s.heap.objs.size + 1 := Heap.size_push ..
  show _ ∧ _
  rw [hz]
  have he : IsEnum ((s.heap.push o).push { cls := .type "enumerate", data := .fields #[.none, .bool false, .ref s.heap.objs.size, rawInt 0, .none, .none] }) (s.heap.objs.size + 1) s.heap.objs.size 0 .none := by
    have e1 := Heap.get?_push_size (s.heap.push o) (o := { cls := .type "enumerate", data := .fields #[.none, .bool false, .ref s.heap.objs.size, rawInt 0, .none, .none] }) rfl
    rw [hz] at e1; exact e1
  exact ⟨⟨_, he, rfl⟩, h _ he (Heap.get?_push_of_some _ (Heap.get?_push_size _ B.free)) (by rw [Heap.size_push, hz]) fun b' o' x' => Heap.get?_push_of_some _ (Heap.get?_push_of_some _ x')⟩
def iEnumS (K : PySem.W.Frag) (ta : TA) : TI := fun σ H R => ta σ H fun vs H1 => ∃ (k : Bool) (a : Addr) (xs : List V), vs = [.ref a] ∧ SqS K H1 k a xs ∧ R (ItE K k a) H1
theorem pi_enumS {X : Cx} {e : Expr} {ta : TA} {p pos tpos : Pos} {elts : List Expr} {kk : Nat} (hg : Gl X "enumerate") (hm : X.mg "enumerate" = none) (ha : PA X [e] ta) (hs : starEach [e] X.env = [(false, eval e X.env)] := by rfl) :
    PI X (.Tuple elts kk tpos) (.Call (.Name "enumerate" p) [e] [] pos) (iEnumS X.K ta) := by
  refine ⟨fun pins s σ H R I h => ?_⟩
  refine Call_ (ld_blt I hg hm boot_enumerate (PyProof.Rows.callWith_type1 (thn (ha.run pos pins s σ H _ I h) fun us s1 ⟨vs, H1, I1, r1, q1⟩ => ?_) hs rfl))
  obtain ⟨k, a, xs, ex, hqx, q⟩ := q1
  subst ex
  obtain ⟨u, rfl, ru⟩ := vals1 r1
  cases ru
  obtain ⟨its, rv, p1, _⟩ := hasS_of I1 hqx
  have la := hasS_lt p1
  refine enum_begins1 (beginsS k a its.toArray) p1 fun h' he h1 hsz hk => ?_
  refine wpAny_pyIter_enum he ?_
  have I2 : Inv X pins σ H1 { s1 with heap := h' } := I1.kept (t' := s1.toks) hk
  refine ⟨_, [s1.heap.objs.size + 1, s1.heap.objs.size], _, _, H1, rfl, I2, turnE (k := k) (a := a) (e := s1.heap.objs.size + 1) (it := s1.heap.objs.size) (Nat.ne_of_lt la) (Nat.succ_ne_self _) (Nat.ne_of_gt (Nat.lt_succ_of_lt la)), ⟨⟨_, he⟩, atS_new h1⟩, fun c hc => ?_, q⟩
  have hle : s1.heap.objs.size ≤ c := by
    simp only [List.mem_cons, List.not_mem_nil, or_false] at hc
    rcases hc with z | z <;> (rw [z]; first | exact Nat.le_refl _ | exact Nat.le_add_right _ _)
  exact I1.fpOk hle (I1.hok.fresh hle)
end Dv

/-! DvE: slots set and forgotten; walks by deep values; comprehensions. -/
namespace Dv
open PySem PySem.Spec PyProof.Rows L2
section
variable {T : Tx} {B : Bs} {ρ ρ' : List Addr} {G G' H H' : Hp} {σ σ2 : L2.St} {env env2 : DEnv} {μ μ' : Mu}
/-! ### slots -/
def wipeD (env : DEnv) : List Nat → DEnv
  | [] => env
  | v :: vs => (wipeD env vs).set v .no
def noOwn (env : DEnv) (vs : List Nat) : Bool := vs.all fun i => match env[i]? with
  | some (.own _) => false
  | _ => true
theorem own_of_set {env : DEnv} {i j : Nat} {s : SV} {l : List D} (hs : ∀ l, s ≠ .own l) (h : (env.set i s)[j]? = some (.own l)) : j ≠ i ∧ env[j]? = some (.own l) := by
  by_cases e : i = j
  · subst e
    by_cases hi : i < env.length
    · rw [List.getElem?_set_self hi] at h
      exact absurd (Option.some.inj h) (hs l)
    · rw [List.getElem?_eq_none (by simpa using Nat.le_of_not_lt hi)] at h; cases h
  · rw [List.getElem?_set_ne e] at h
    exact ⟨fun q => e q.symm, h⟩
/-- a slot is stored -/
theorem RD.setG (R : RD T B ρ G H σ env μ) {i : Nat} {x : Option V} {s : SV} (hs : ∀ l, s ≠ .own l) (hx : ∀ d, s = .v d → ∃ v, x = some v ∧ Rep T ρ G v d) : RD T B ρ G H (σ.set i x) (env.set i s) μ := by
  have sne : ∀ {j : Nat}, j ≠ i → (σ.set i x)[j]? = σ[j]? := fun {j} h => List.getElem?_set_ne (Ne.symm h)
  refine ⟨R.gh, R.ext, by simp [R.len], fun j t ht => ?_, fun j k l l' p h1 h2 h3 h4 => ?_, R.st, fun q hq => ?_, R.xn⟩
  · by_cases e : i = j
    · subst e
      by_cases hi : i < env.length
      · rw [List.getElem?_set_self hi] at ht
        cases ht
        have hi2 : i < σ.length := by rw [← R.len]; exact hi
        cases s with
        | no => trivial
        | v d =>
          obtain ⟨v, e1, e2⟩ := hx d rfl
          exact ⟨v, by rw [List.getElem?_set_self hi2, e1], e2⟩
        | own l => exact absurd rfl (hs l)
      · rw [List.getElem?_eq_none (by simpa using Nat.le_of_not_lt hi)] at ht; cases ht
    · rw [List.getElem?_set_ne e] at ht
      have h := R.slot j t ht
      cases t with
      | no => trivial
      | v d => unfold SlR at h ⊢; rw [sne (fun q => e q.symm)]; exact h
      | own l => unfold SlR at h ⊢; rw [sne (fun q => e q.symm)]; exact h
  · obtain ⟨n1, o1⟩ := own_of_set hs h1
    obtain ⟨n2, o2⟩ := own_of_set hs h2
    rw [sne n1] at h3
    rw [sne n2] at h4
    exact R.own j k l l' p o1 o2 h3 h4
  · obtain ⟨e1, e2, e3, e4, e5⟩ := R.xo q hq
    refine ⟨e1, e2, e3, e4, fun j l' h1 h2 => ?_⟩
    obtain ⟨n1, o1⟩ := own_of_set hs h1
    rw [sne n1] at h2
    exact e5 j l' o1 h2
theorem RD.set (R : RD T B ρ G H σ env μ) {i : Nat} {v : V} {d : D} (r : Rep T ρ G v d) : RD T B ρ G H (σ.set i (some v)) (env.set i (.v d)) μ :=
  R.setG (fun _ => by simp) fun d' e => by cases e; exact ⟨v, rfl, r⟩
theorem RD.wipe (R : RD T B ρ G H σ env μ) : ∀ vs : List Nat, RD T B ρ G H (wipe σ vs) (wipeD env vs) μ
  | [] => R
  | i :: vs => RD.setG (RD.wipe R vs) (fun _ => by simp) fun d' e => by cases e
theorem wipeD_out {i : Nat} : ∀ {vs : List Nat}, i ∉ vs → (wipeD env vs)[i]? = env[i]?
  | [], _ => rfl
  | v :: vs, h => by
    have h1 : v ≠ i := fun e => h (by rw [e]; exact List.mem_cons_self)
    have h2 : i ∉ vs := fun m => h (List.mem_cons_of_mem _ m)
    unfold wipeD
    rw [List.getElem?_set_ne h1]
    exact wipeD_out h2
/-- back from a block -/
theorem RD.back (R : RD T B ρ G H σ env μ) (R' : RD T B ρ' G' H' σ2 env2 μ') (s : Same G G') (p : Pre ρ ρ') {vs : List Nat} (no : noOwn env vs = true) (he : ∀ i, i ∉ vs → env2[i]? = env[i]?) (hσ : ∀ i, i ∉ vs → σ2[i]? = σ[i]?) :
    RD T B ρ' G' H' σ env μ' := by
  have nv : ∀ {i : Nat} {l : List D}, env[i]? = some (.own l) → i ∉ vs := fun {i l} h m => by
    have q := List.all_eq_true.mp no i m
    rw [h] at q; cases q
  refine ⟨R'.gh, R'.ext, R.len, fun i t ht => ?_, fun i j l l' q h1 h2 h3 h4 => ?_, R'.st, fun q hq => ?_, R'.xn⟩
  · cases t with
    | no => trivial
    | v d =>
      obtain ⟨v, e1, e2⟩ := R.slot i _ ht
      exact ⟨v, e1, e2.mono s p⟩
    | own l =>
      have m := nv ht
      have h := R'.slot i (.own l) (by rw [he i m]; exact ht)
      unfold SlR at h ⊢
      rw [← hσ i m]; exact h
  · have m1 := nv h1
    have m2 := nv h2
    exact R'.own i j l l' q (by rw [he i m1]; exact h1) (by rw [he j m2]; exact h2) (by rw [hσ i m1]; exact h3) (by rw [hσ j m2]; exact h4)
  · obtain ⟨e1, e2, e3, e4, e5⟩ := R'.xo q hq
    refine ⟨e1, e2, e3, e4, fun i l' h1 h2 => ?_⟩
    have m := nv h1
    exact e5 i l' (by rw [he i m]; exact h1) (by rw [hσ i m]; exact h2)
end

/-! ### walks -/
structure WalkD (T : Tx) (J : It) (ρ : List Addr) (G : Hp) (ds : List D) : Prop where
  sz : szl ds.length
  go : ∀ (i : Nat) d, ds[i]? = some d → ∀ ρ' G' H', Same G G' → Pre ρ ρ' → Same G' H' → J.go i H' ∧ ∀ x H'', J.yld i H' x H'' →
    (H'' = H' ∧ Rep T ρ' G' x d) ∨ ∃ p vs l, H' p = none ∧ H'' = upd H' p (.tup vs) ∧ x = .ref p ∧ d = .tup l ∧ Reps T ρ' G' vs l ∧ szl l.length
  stop : ∀ ρ' G' H', Same G G' → Pre ρ ρ' → Same G' H' → J.stop ds.length H'
def rdI (T : Tx) (B : Bs) (W : WX) (m : DEnv → Mu → Res (List D)) : TI := fun σ H R => ∃ ρ G env μ, RD T B ρ G H σ env μ ∧ KE T B σ env W (fun ρ' G' H' _ ds => ∀ J, WalkD T J ρ' G' ds → R J H') ρ G (m env μ)
structure DI (X : Cx) (B : Bs) (W : WX) (tg iter : Expr) (m : DEnv → Mu → Res (List D)) : Prop where
  run : PI X tg iter (rdI (tx X) B W m)
theorem piImp {X : Cx} {tg iter : Expr} {w w' : TI} (h : PI X tg iter w) (i : ∀ σ H R, w' σ H R → w σ H R) : PI X tg iter w' := ⟨fun pins s σ H R I q => h.run pins s σ H R I (i σ H R q)⟩
theorem piOr {X : Cx} {tg iter : Expr} {w w' : TI} (h : PI X tg iter w) (h' : PI X tg iter w') : PI X tg iter (fun σ H R => w σ H R ∨ w' σ H R) := ⟨fun pins s σ H R I q => q.elim (h.run pins s σ H R I) (h'.run pins s σ H R I)⟩
section
variable {X : Cx} {B : Bs} {W : WX} {T : Tx} {ρ : List Addr} {G H : Hp}
theorem walk_list {K : PySem.W.Frag} {a : Addr} {vs : List V} {l : List D} (hg : G a = some (.lst vs)) (z : szl l.length) (r : Reps T ρ G vs l) : WalkD T (Itl K a) ρ G l where
  sz := z
  go := fun i d hd ρ' G' H' s p gh => by
    obtain ⟨v, e, q⟩ := r.get hd
    have h1 : SqL K H' a vs := .of (gh _ _ (s _ _ hg))
    exact ⟨⟨vs, v, h1, e⟩, fun x H'' ⟨e1, e2⟩ => .inl ⟨e1, by have := e2 vs h1; rw [e] at this; cases this; exact q.mono s p⟩⟩
  stop := fun ρ' G' H' s p gh => ⟨vs, .of (gh _ _ (s _ _ hg)), by rw [r.length]; exact Nat.le_refl _⟩
theorem walk_tup {a : Addr} {vs : List V} {l : List D} (hg : SqG T.K G a vs) (z : szl l.length) (r : Reps T ρ G vs l) : WalkD T (Itt T.K a) ρ G l where
  sz := z
  go := fun i d hd ρ' G' H' s p gh => by
    obtain ⟨v, e, q⟩ := r.get hd
    have h1 : SqT T.K H' a vs := (sqG_mono gh (sqG_mono s hg)).sq
    exact ⟨⟨vs, v, h1, e⟩, fun x H'' ⟨e1, e2⟩ => .inl ⟨e1, by have := e2 vs h1; rw [e] at this; cases this; exact q.mono s p⟩⟩
  stop := fun ρ' G' H' s p gh => ⟨vs, (sqG_mono gh (sqG_mono s hg)).sq, by rw [r.length]; exact Nat.le_refl _⟩
def signs (z : Str) : List D := z.cps.toList.map fun c => .str ⟨#[c]⟩
theorem walk_str {z : Str} (hz : szl z.cps.size) : WalkD T (Its z) ρ G (signs z) where
  sz := by simp [signs]; exact hz
  go := fun i d hd ρ' G' H' s p gh => by
    unfold signs at hd
    rw [List.getElem?_map] at hd
    cases e : z.cps.toList[i]? with
    | none => rw [e] at hd; cases hd
    | some c =>
      rw [e] at hd
      cases hd
      have e' : z.cps[i]? = some c := by simpa using e
      refine ⟨?_, fun x H'' ⟨e1, c', e2, e3⟩ => .inl ⟨e1, ?_⟩⟩
      · exact (Array.getElem?_eq_some_iff.mp e').1
      · rw [e'] at e2; cases e2; rw [e3]; exact rep_str
  stop := fun ρ' G' H' s p gh => by show z.cps.size ≤ _; simp [signs]
def fIter : D → Mu → Res (List D)
  | .tup l, μ => ret l μ
  | .lst l, μ => ret l μ
  | .new l, μ => ret l μ
  | .str z, μ => if szl z.cps.size then ret (signs z) μ else none
  | _, _ => none
def dIter (m : DEx) : DEnv → Mu → Res (List D) := fun env μ => bindR (m env μ) fIter
theorem di_seq {tg e : Expr} {m : DEx} (h : DE X B W e m) : DI X B W tg e (dIter m) := by
  refine ⟨piImp (piOr (pi_list h.run) (piOr (pi_tup h.run) (pi_str h.run))) fun σ H R ⟨ρ, G, env, μ, R0, k⟩ => ?_⟩
  cases hm : m env μ with
  | none => unfold dIter at k; rw [hm] at k; exact k.elim
  | some q =>
    obtain ⟨o, μ1⟩ := q
    cases o with
    | exc x =>
      refine .inl ⟨ρ, G, env, μ, R0, ?_⟩
      unfold dIter at k
      rw [hm] at k ⊢
      exact k
    | val d =>
      have k : KE (tx X) B σ env W (fun ρ' G' H' _ ds => ∀ J, WalkD (tx X) J ρ' G' ds → R J H') ρ G (bindR (m env μ) fIter) := k
      rw [hm] at k
      cases d with
      | tup l =>
        refine .inr (.inl ⟨ρ, G, env, μ, R0, ?_⟩)
        rw [hm]
        intro ρ' G' H' s p R1 v hv
        obtain ⟨a, vs, rfl, q, z, r⟩ := tup_inv (σ := σ) (env := env) hv
        exact ⟨a, rfl, ⟨vs, (sqG_mono R1.gh q).sq⟩, k ρ' G' H' s p R1 _ (walk_tup q z r)⟩
      | lst l =>
        refine .inl ⟨ρ, G, env, μ, R0, ?_⟩
        rw [hm]
        intro ρ' G' H' s p R1 v hv
        obtain ⟨a, vs, rfl, q, z, r⟩ := lst_inv (σ := σ) (env := env) hv
        exact ⟨a, rfl, ⟨vs, .of (R1.gh _ _ q)⟩, k ρ' G' H' s p R1 _ (walk_list q z r)⟩
      | new l =>
        refine .inl ⟨ρ, G, env, μ, R0, ?_⟩
        rw [hm]
        intro ρ' G' H' s p R1 v hv
        obtain ⟨G2, s2, R2, h2⟩ := hv.hold R1
        obtain ⟨a, vs, rfl, q, z, r⟩ := lst_inv h2
        exact ⟨a, rfl, ⟨vs, .of (R2.gh _ _ q)⟩, k ρ' G2 H' (s.trans s2) p R2 _ (walk_list q z r)⟩
      | str z =>
        refine .inr (.inr ⟨ρ, G, env, μ, R0, ?_⟩)
        rw [hm]
        intro ρ' G' H' s p R1 v hv
        have e := str_inv (T := tx X) (ρ := ρ') (G := G') (σ := σ) (env := env) hv
        unfold bindR fIter at k
        simp only at k
        split at k
        · rename_i hz
          exact ⟨z, e, k ρ' G' H' s p R1 _ (walk_str hz)⟩
        · exact k.elim
      | _ => exact k.elim
/-! ### range -/
/-- (by natAbs: a kernel that tries an addition of a written number to an unknown one counts it down) -/
def small62 (i : Int) : Bool := decide (i.natAbs < 4611686018427387904)
def rangeD (lo hi : Int) : List D := (List.range (hi - lo).toNat).map fun (i : Nat) => .int (lo + i)
def fRange1 : List D → Mu → Res (List D)
  | [.int j], μ => if small62 j = true ∧ szl (j - 0).toNat then ret (rangeD 0 j) μ else none
  | _, _ => none
def fRange2 : List D → Mu → Res (List D)
  | [.int i, .int j], μ => if small62 i = true ∧ small62 j = true ∧ szl (j - i).toNat then ret (rangeD i j) μ else none
  | _, _ => none
theorem rangeD_len (lo hi : Int) : (rangeD lo hi).length = (hi - lo).toNat := by simp [rangeD]
theorem walk_range {lo hi : Int} (z : szl (hi - lo).toNat) : WalkD T (Itr lo (hi - lo).toNat) ρ G (rangeD lo hi) where
  sz := by rw [rangeD_len]; exact z
  go := fun i d hd ρ' G' H' s p gh => by
    unfold rangeD at hd
    rw [List.getElem?_map] at hd
    by_cases hi' : i < (hi - lo).toNat
    · rw [List.getElem?_range hi'] at hd
      cases hd
      exact ⟨hi', fun x H'' ⟨e1, e2⟩ => .inl ⟨e1, by rw [e2]; exact rep_int⟩⟩
    · rw [List.getElem?_eq_none (by simpa using hi')] at hd; cases hd
  stop := fun ρ' G' H' s p gh => by show (hi - lo).toNat ≤ _; rw [rangeD_len]; exact Nat.le_refl _
theorem hreps1 {T : Tx} {ρ : List Addr} {G : Hp} {σ : L2.St} {env : DEnv} {vs : List V} {d : D} (h : HReps T ρ G σ env vs [d]) : ∃ v, vs = [v] ∧ HeldR T ρ G σ env v d := by
  cases h with
  | cons a b => cases b; exact ⟨_, rfl, a⟩
theorem hreps2 {T : Tx} {ρ : List Addr} {G : Hp} {σ : L2.St} {env : DEnv} {vs : List V} {d e : D} (h : HReps T ρ G σ env vs [d, e]) : ∃ v u, vs = [v, u] ∧ HeldR T ρ G σ env v d ∧ HeldR T ρ G σ env u e := by
  cases h with
  | cons a b =>
    obtain ⟨u, rfl, q⟩ := hreps1 b
    exact ⟨_, _, rfl, a, q⟩
theorem small62_ok {i : Int} (h : small62 i = true) : -(2 ^ 62) ≤ i ∧ i < 2 ^ 62 := by
  unfold small62 at h
  simp only [decide_eq_true_eq] at h
  omega
def dArg (f : List D → Mu → Res (List D)) (n : DEnv → Mu → Res (List D)) : DEnv → Mu → Res (List D) := fun env μ => bindR (n env μ) f
theorem di_range1 {tg a : Expr} {p pos : Pos} {n : DEnv → Mu → Res (List D)} (hg : Gl X "range") (hm : X.mg "range" = none) (ha : DA X B W [a] n) (hs : starEach [a] X.env = [(false, eval a X.env)] := by rfl) : DI X B W tg (.Call (.Name "range" p) [a] [] pos) (dArg fRange1 n) := by
  refine ⟨piImp (pi_range1 hg hm ha.run hs) fun σ H R ⟨ρ, G, env, μ, R0, k⟩ => ⟨ρ, G, env, μ, R0, (KE.bind (f := fRange1) k).imp fun ρ1 G1 H1 μ1 ds s p R1 k1 vs hvs => ?_⟩⟩
  unfold fRange1 at k1
  split at k1
  · split at k1
    · rename_i j hz
      obtain ⟨v, rfl, hv⟩ := hreps1 hvs
      have b := small62_ok hz.1
      refine ⟨j, by rw [int_inv hv], b.1, b.2, ?_⟩
      have e : j.toNat = (j - 0).toNat := by omega
      rw [e]
      exact k1 ρ1 G1 H1 (fun _ _ h => h) (.refl _) R1 _ (walk_range hz.2)
    · exact k1.elim
  · exact k1.elim
theorem di_range2 {tg a b : Expr} {p pos : Pos} {n : DEnv → Mu → Res (List D)} (hg : Gl X "range") (hm : X.mg "range" = none) (ha : DA X B W [a, b] n) (hs : starEach [a, b] X.env = [(false, eval a X.env), (false, eval b X.env)] := by rfl) (hs2 : starEach [b] X.env = [(false, eval b X.env)] := by rfl) :
    DI X B W tg (.Call (.Name "range" p) [a, b] [] pos) (dArg fRange2 n) := by
  refine ⟨piImp (pi_range2 hg hm ha.run hs hs2) fun σ H R ⟨ρ, G, env, μ, R0, k⟩ => ⟨ρ, G, env, μ, R0, (KE.bind (f := fRange2) k).imp fun ρ1 G1 H1 μ1 ds s p R1 k1 vs hvs => ?_⟩⟩
  unfold fRange2 at k1
  split at k1
  · split at k1
    · rename_i i j hz
      obtain ⟨v, u, rfl, hv, hu⟩ := hreps2 hvs
      have b1 := small62_ok hz.1
      have b2 := small62_ok hz.2.1
      refine ⟨i, j, by rw [int_inv hv, int_inv hu], ⟨b1.1, b1.2, b2.1, b2.2⟩, ?_⟩
      exact k1 ρ1 G1 H1 (fun _ _ h => h) (.refl _) R1 _ (walk_range hz.2.2)
    · exact k1.elim
  · exact k1.elim
/-! ### zip, enumerate -/
/-- the items of a list or a tuple that stands -/
def seqD : D → Option (List D)
  | .tup l => some l
  | .lst l => some l
  | _ => none
theorem seqD_inv {T : Tx} {B : Bs} {ρ : List Addr} {G H : Hp} {σ : L2.St} {env : DEnv} {μ : Mu} {x : V} {d : D} {l : List D} (R : RD T B ρ G H σ env μ) (h : HeldR T ρ G σ env x d) (e : seqD d = some l) :
    ∃ k a vs, x = .ref a ∧ (∀ G' H', Same G G' → Same G' H' → SqS T.K H' k a vs) ∧ szl l.length ∧ Reps T ρ G vs l := by
  cases d with
  | tup l' =>
    cases e
    obtain ⟨a, vs, q, g, z, r⟩ := tup_inv h
    exact ⟨false, a, vs, q, fun G' H' s gh => (sqG_mono gh (sqG_mono s g)).sq, z, r⟩
  | lst l' =>
    cases e
    obtain ⟨a, vs, q, g, z, r⟩ := lst_inv h
    exact ⟨true, a, vs, q, fun G' H' s gh => .of (gh _ _ (s _ _ g)), z, r⟩
  | _ => cases e
def pairD (a b : D) : D := .tup [a, b]
def fZip : List D → Mu → Res (List D)
  | [a, b], μ => match seqD a, seqD b with
    | some l, some m => ret (List.zipWith pairD l m) μ
    | _, _ => none
  | _, _ => none
def enumD : Nat → List D → List D
  | _, [] => []
  | i, d :: ds => pairD (.int i) d :: enumD (i + 1) ds
def fEnum : List D → Mu → Res (List D)
  | [a], μ => match seqD a with
    | some l => ret (enumD 0 l) μ
    | none => none
  | _, _ => none
theorem reps2 {T : Tx} {ρ : List Addr} {G : Hp} {x y : V} {a b : D} (h : Rep T ρ G x a) (g : Rep T ρ G y b) : Reps T ρ G [x, y] [a, b] := .cons h (.cons g .nil)
theorem walk_zip {K : PySem.W.Frag} {k1 k2 : Bool} {a b : Addr} {us vs : List V} {l m : List D} (h1 : ∀ G' H', Same G G' → Same G' H' → SqS K H' k1 a us) (h2 : ∀ G' H', Same G G' → Same G' H' → SqS K H' k2 b vs) (z : szl l.length) (r1 : Reps T ρ G us l) (r2 : Reps T ρ G vs m) :
    WalkD T (ItZ K k1 k2 a b) ρ G (List.zipWith pairD l m) where
  sz := by rw [List.length_zipWith]; exact Nat.le_trans (Nat.min_le_left _ _) z
  go := fun i d hd ρ' G' H' s p gh => by
    rw [List.getElem?_zipWith] at hd
    cases e1 : l[i]? with
    | none => rw [e1] at hd; cases hd
    | some d1 =>
      cases e2 : m[i]? with
      | none => rw [e1, e2] at hd; cases hd
      | some d2 =>
        rw [e1, e2] at hd
        cases hd
        obtain ⟨v1, q1, t1⟩ := r1.get e1
        obtain ⟨v2, q2, t2⟩ := r2.get e2
        refine ⟨⟨us, vs, v1, v2, h1 G' H' s gh, h2 G' H' s gh, q1, q2⟩, fun x H'' ⟨T', x', y', ex, hn, eH, f1, f2⟩ => .inr ⟨T', [x', y'], [d1, d2], hn, eH, ex, rfl, ?_, by show 2 ≤ 16777216; decide⟩⟩
        have g1 := f1 us (h1 G' H' s gh)
        have g2 := f2 vs (h2 G' H' s gh)
        rw [q1] at g1; cases g1
        rw [q2] at g2; cases g2
        exact reps2 (t1.mono s p) (t2.mono s p)
  stop := fun ρ' G' H' s p gh => ⟨us, vs, h1 G' H' s gh, h2 G' H' s gh, by rw [List.length_zipWith, r1.length, r2.length]⟩
theorem enumD_len : ∀ (l : List D) (i : Nat), (enumD i l).length = l.length
  | [], _ => rfl
  | d :: ds, i => by unfold enumD; simp [enumD_len ds]
theorem enumD_get : ∀ {l : List D} {i j : Nat} {d : D}, (enumD j l)[i]? = some d → ∃ d', l[i]? = some d' ∧ d = pairD (.int ((j + i : Nat) : Int)) d'
  | [], i, j, d, h => by simp [enumD] at h
  | x :: ds, 0, j, d, h => by
    unfold enumD at h
    simp at h
    exact ⟨x, rfl, by rw [← h]; simp⟩
  | x :: ds, i + 1, j, d, h => by
    unfold enumD at h
    obtain ⟨d', e1, e2⟩ := enumD_get (l := ds) (i := i) (j := j + 1) (by simpa using h)
    exact ⟨d', by simpa using e1, by rw [e2, show j + 1 + i = j + (i + 1) by omega]⟩
theorem walk_enum {K : PySem.W.Frag} {k1 : Bool} {a : Addr} {us : List V} {l : List D} (h1 : ∀ G' H', Same G G' → Same G' H' → SqS K H' k1 a us) (z : szl l.length) (r1 : Reps T ρ G us l) : WalkD T (ItE K k1 a) ρ G (enumD 0 l) where
  sz := by rw [enumD_len]; exact z
  go := fun i d hd ρ' G' H' s p gh => by
    obtain ⟨d', e1, rfl⟩ := enumD_get hd
    obtain ⟨v1, q1, t1⟩ := r1.get e1
    refine ⟨⟨us, v1, h1 G' H' s gh, q1⟩, fun x H'' ⟨T', x', ex, hn, eH, f1⟩ => .inr ⟨T', [.int (i : Nat), x'], [.int ((0 + i : Nat) : Int), d'], hn, eH, ex, rfl, ?_, by show 2 ≤ 16777216; decide⟩⟩
    have g1 := f1 us (h1 G' H' s gh)
    rw [q1] at g1; cases g1
    exact reps2 (by rw [Nat.zero_add]; exact rep_int) (t1.mono s p)
  stop := fun ρ' G' H' s p gh => ⟨us, h1 G' H' s gh, by rw [enumD_len, r1.length]⟩
theorem di_zip {elts : List Expr} {kk : Nat} {tpos : Pos} {a b : Expr} {p pos : Pos} {n : DEnv → Mu → Res (List D)} (hg : Gl X "zip") (hm : X.mg "zip" = none) (ha : DA X B W [a, b] n)
    (hs : starEach [a, b] X.env = (false, eval a X.env) :: starEach [b] X.env := by rfl) (hpl : (backTo pos (starEach [b] X.env)).any (·.1) = false := by rfl) : DI X B W (.Tuple elts kk tpos) (.Call (.Name "zip" p) [a, b] [] pos) (dArg fZip n) := by
  refine ⟨piImp (pi_zipS hg hm ha.run hs hpl) fun σ H R ⟨ρ, G, env, μ, R0, k⟩ => ⟨ρ, G, env, μ, R0, (KE.bind (f := fZip) k).imp fun ρ1 G1 H1 μ1 ds s p R1 k1 vs hvs => ?_⟩⟩
  unfold fZip at k1
  split at k1
  · rename_i d e
    split at k1
    · rename_i l m e1 e2
      obtain ⟨v, u, rfl, hv, hu⟩ := hreps2 hvs
      obtain ⟨k, a, xs, rfl, q1, z1, r1⟩ := seqD_inv R1 hv e1
      obtain ⟨k', b, ys, rfl, q2, z2, r2⟩ := seqD_inv R1 hu e2
      exact ⟨k, k', a, b, xs, ys, rfl, q1 _ _ (fun _ _ h => h) R1.gh, q2 _ _ (fun _ _ h => h) R1.gh, k1 ρ1 G1 H1 (fun _ _ h => h) (.refl _) R1 _ (walk_zip q1 q2 z1 r1 r2)⟩
    · exact k1.elim
  · exact k1.elim
theorem di_enum {elts : List Expr} {kk : Nat} {tpos : Pos} {a : Expr} {p pos : Pos} {n : DEnv → Mu → Res (List D)} (hg : Gl X "enumerate") (hm : X.mg "enumerate" = none) (ha : DA X B W [a] n)
    (hs : starEach [a] X.env = [(false, eval a X.env)] := by rfl) : DI X B W (.Tuple elts kk tpos) (.Call (.Name "enumerate" p) [a] [] pos) (dArg fEnum n) := by
  refine ⟨piImp (pi_enumS hg hm ha.run hs) fun σ H R ⟨ρ, G, env, μ, R0, k⟩ => ⟨ρ, G, env, μ, R0, (KE.bind (f := fEnum) k).imp fun ρ1 G1 H1 μ1 ds s p R1 k1 vs hvs => ?_⟩⟩
  unfold fEnum at k1
  split at k1
  · rename_i d
    split at k1
    · rename_i l e1
      obtain ⟨v, rfl, hv⟩ := hreps1 hvs
      obtain ⟨k, a, xs, rfl, q1, z1, r1⟩ := seqD_inv R1 hv e1
      exact ⟨k, a, xs, rfl, q1 _ _ (fun _ _ h => h) R1.gh, k1 ρ1 G1 H1 (fun _ _ h => h) (.refl _) R1 _ (walk_enum q1 z1 r1)⟩
    · exact k1.elim
  · exact k1.elim
end
end Dv

/-! DvF: targets, comprehensions, calls of built-ins, subscripts. -/
namespace Dv
open PySem PySem.Spec PyProof.Rows L2
/-! ### targets -/
abbrev DTg := DEnv → D → Option DEnv
/-- a target by deep values: it stores the slots is -/
structure GD (K : PySem.W.Frag) (mg : Str → Option Value) (g : TG) (t : DTg) (is : List Nat) : Prop where
  ok : ∀ (B : Bs) (ρ : List Addr) (G H : Hp) (σ : L2.St) (env : DEnv) (μ : Mu) (x : V) (d : D) (env' : DEnv) (Q : L2.St → Hp → Prop), RD ⟨K, mg⟩ B ρ G H σ env μ → Rep ⟨K, mg⟩ ρ G x d → t env d = some env' →
    (∀ σ', RD ⟨K, mg⟩ B ρ G H σ' env' μ → (∀ vs : List Nat, (∀ i ∈ is, i ∈ vs) → wipe σ' vs = wipe σ vs) → (∀ i, i ∉ is → σ'[i]? = σ[i]?) → Q σ' H) → g x σ H Q
  out : ∀ env d env', t env d = some env' → ∀ i, i ∉ is → env'[i]? = env[i]?
structure GsD (K : PySem.W.Frag) (mg : Str → Option Value) (g : TGs) (t : DEnv → List D → Option DEnv) (is : List Nat) : Prop where
  ok : ∀ (B : Bs) (ρ : List Addr) (G H : Hp) (σ : L2.St) (env : DEnv) (μ : Mu) (xs : List V) (ds : List D) (env' : DEnv) (Q : L2.St → Hp → Prop), RD ⟨K, mg⟩ B ρ G H σ env μ → Reps ⟨K, mg⟩ ρ G xs ds → t env ds = some env' →
    (∀ σ', RD ⟨K, mg⟩ B ρ G H σ' env' μ → (∀ vs : List Nat, (∀ i ∈ is, i ∈ vs) → wipe σ' vs = wipe σ vs) → (∀ i, i ∉ is → σ'[i]? = σ[i]?) → Q σ' H) → g xs σ H Q
  out : ∀ env ds env', t env ds = some env' → ∀ i, i ∉ is → env'[i]? = env[i]?
def tName (i : Nat) : DTg := fun env d => some (env.set i (.v d))
def tsNil : DEnv → List D → Option DEnv
  | env, [] => some env
  | _, _ => none
def tsCons (t : DTg) (u : DEnv → List D → Option DEnv) : DEnv → List D → Option DEnv
  | env, d :: ds => (match t env d with
    | some env' => u env' ds
    | none => none)
  | _, [] => none
def tTup (n : Nat) (u : DEnv → List D → Option DEnv) : DTg := fun env d => match d with
  | .tup l => if l.length = n then u env l else none
  | _ => none
section
variable {K : PySem.W.Frag} {mg : Str → Option Value}
theorem wipe_set {σ : L2.St} {i : Nat} {v : Option V} : ∀ {vs : List Nat}, i ∈ vs → wipe (σ.set i v) vs = wipe σ vs := by
  intro vs h
  apply List.ext_getElem?
  intro j
  have len : (wipe (σ.set i v) vs).length = (wipe σ vs).length := by rw [wipe_length, wipe_length, List.length_set]
  by_cases hj : j ∈ vs
  · have w : ∀ (τ : L2.St), (wipe τ vs)[j]? = if j < τ.length then some none else none := by
      intro τ
      induction vs with
      | nil => cases hj
      | cons u us ih =>
        unfold wipe
        by_cases e : u = j
        · subst e
          by_cases hl : u < τ.length
          · rw [List.getElem?_set_self (by rw [wipe_length]; exact hl), if_pos hl]
          · rw [List.getElem?_eq_none (by rw [List.length_set, wipe_length]; omega), if_neg hl]
        · rw [List.getElem?_set_ne e]
          have hj' : j ∈ us := by
            rcases List.mem_cons.mp hj with q | q
            · exact absurd q.symm e
            · exact q
          clear ih
          revert hj'
          intro hj'
          have : ∀ (ws : List Nat), j ∈ ws → (wipe τ ws)[j]? = if j < τ.length then some none else none := by
            intro ws
            induction ws with
            | nil => intro z; cases z
            | cons y ys ih2 =>
              intro z
              unfold wipe
              by_cases e2 : y = j
              · subst e2
                by_cases hl : y < τ.length
                · rw [List.getElem?_set_self (by rw [wipe_length]; exact hl), if_pos hl]
                · rw [List.getElem?_eq_none (by rw [List.length_set, wipe_length]; omega), if_neg hl]
              · rw [List.getElem?_set_ne e2]
                rcases List.mem_cons.mp z with q | q
                · exact absurd q.symm e2
                · exact ih2 q
          exact this us hj'
    rw [w, w, List.length_set]
  · rw [wipe_out hj, wipe_out hj, List.getElem?_set_ne (fun e => hj (by rw [← e]; exact h))]
theorem gd_name {i : Nat} : GD K mg (gName i) (tName i) [i] where
  ok := fun B ρ G H σ env μ x d env' Q R r e k => by
    unfold tName at e
    cases e
    refine k (σ.set i (some x)) (R.set r) (fun vs h => wipe_set (h i (by simp))) fun j hj => ?_
    exact List.getElem?_set_ne (fun q => hj (by simp [q]))
  out := fun env d env' e j hj => by
    unfold tName at e
    cases e
    exact List.getElem?_set_ne (fun q => hj (by simp [q]))
theorem gsd_nil : GsD K mg gNil tsNil [] where
  ok := fun B ρ G H σ env μ xs ds env' Q R r e k => by
    cases ds with
    | nil =>
      unfold tsNil at e
      cases e
      exact ⟨r.inv0, k σ R (fun _ _ => rfl) fun _ _ => rfl⟩
    | cons d ds => unfold tsNil at e; cases e
  out := fun env ds env' e j hj => by
    cases ds with
    | nil => unfold tsNil at e; cases e; rfl
    | cons d ds => unfold tsNil at e; cases e
theorem gsd_cons {g : TG} {t : DTg} {is js : List Nat} {gs : TGs} {u : DEnv → List D → Option DEnv} (h : GD K mg g t is) (h' : GsD K mg gs u js) : GsD K mg (gCons g gs) (tsCons t u) (is ++ js) where
  ok := fun B ρ G H σ env μ xs ds env' Q R r e k => by
    cases ds with
    | nil => unfold tsCons at e; cases e
    | cons d ds =>
      unfold tsCons at e
      simp only at e
      split at e
      · rename_i env1 e1
        obtain ⟨v, rr, rfl, r1, r2⟩ := r.inv
        refine ⟨v, rr, rfl, h.ok B ρ G H σ env μ v d env1 _ R r1 e1 fun σ1 R1 w1 o1 => h'.ok B ρ G H σ1 env1 μ rr ds env' _ R1 r2 e fun σ2 R2 w2 o2 => k σ2 R2 (fun vs hv => ?_) fun i hi => ?_⟩
        · rw [w2 vs fun i hi => hv i (List.mem_append_right _ hi), w1 vs fun i hi => hv i (List.mem_append_left _ hi)]
        · rw [o2 i fun m => hi (List.mem_append_right _ m), o1 i fun m => hi (List.mem_append_left _ m)]
      · cases e
  out := fun env ds env' e i hi => by
    cases ds with
    | nil => unfold tsCons at e; cases e
    | cons d ds =>
      unfold tsCons at e
      simp only at e
      split at e
      · rename_i env1 e1
        rw [h'.out _ _ _ e i fun m => hi (List.mem_append_right _ m), h.out _ _ _ e1 i fun m => hi (List.mem_append_left _ m)]
      · cases e
theorem gd_tup {n : Nat} {gs : TGs} {u : DEnv → List D → Option DEnv} {is : List Nat} (h : GsD K mg gs u is) : GD K mg (gTup K n gs) (tTup n u) is where
  ok := fun B ρ G H σ env μ x d env' Q R r e k => by
    unfold tTup at e
    split at e
    · rename_i l
      split at e
      · rename_i hn
        obtain ⟨a, vs, rfl, q, z, rs⟩ := tup_inv (σ := σ) (env := env) (.of r)
        exact ⟨a, vs, rfl, (sqG_mono R.gh q).sq, by rw [rs.length, hn], h.ok B ρ G H σ env μ vs l env' Q R rs e k⟩
      · cases e
    · cases e
  out := fun env d env' e i hi => by
    unfold tTup at e
    split at e
    · split at e
      · exact h.out _ _ _ e i hi
      · cases e
    · cases e
end
/-! ### a list of the block's own -/
def Bs.add (B : Bs) (a : Addr) (vs : List V) : Bs := { B with xo := (a, vs) :: B.xo }
section
variable {T : Tx} {B : Bs} {ρ : List Addr} {G H : Hp} {σ : L2.St} {env : DEnv} {μ : Mu} {a : Addr} {vs us : List V}
theorem RD.addX (R : RD T B ρ G H σ env μ) (h1 : H a = some (.lst vs)) (h2 : G a = none) (h3 : a ∉ ρ) (h4 : B.H0 a = none) (h5 : ∀ (i : Nat) (l' : List D), env[i]? = some (.own l') → σ[i]? ≠ some (some (.ref a))) (h6 : ∀ q ∈ B.xo, q.1 ≠ a) :
    RD T (B.add a vs) ρ G H σ env μ :=
  ⟨R.gh, R.ext, R.len, R.slot, R.own, R.st, fun q hq => (List.mem_cons.mp hq).elim (fun e => by subst e; exact ⟨h1, h2, h3, h4, h5⟩) (R.xo q), List.nodup_cons.mpr ⟨fun m => by
    obtain ⟨q, hq, e⟩ := List.mem_map.mp m
    exact h6 q hq e, R.xn⟩⟩
theorem RD.delX (R : RD T (B.add a vs) ρ G H σ env μ) : RD T B ρ G H σ env μ ∧ H a = some (.lst vs) ∧ G a = none ∧ a ∉ ρ ∧ B.H0 a = none ∧ (∀ (i : Nat) (l' : List D), env[i]? = some (.own l') → σ[i]? ≠ some (some (.ref a))) ∧ ∀ q ∈ B.xo, q.1 ≠ a := by
  have h := R.xo (a, vs) List.mem_cons_self
  have n := List.nodup_cons.mp (show ((a :: B.xo.map (·.1)) : List Addr).Nodup from R.xn)
  exact ⟨⟨R.gh, R.ext, R.len, R.slot, R.own, R.st, fun q hq => R.xo q (List.mem_cons_of_mem _ hq), n.2⟩, h.1, h.2.1, h.2.2.1, h.2.2.2.1, h.2.2.2.2, fun q hq e => n.1 (List.mem_map.mpr ⟨q, hq, e⟩)⟩
/-- nobody's list is changed -/
theorem RD.writeN (R : RD T B ρ G H σ env μ) {o : HO} (h1 : ∃ o', H a = some o') (h2 : G a = none) (h3 : a ∉ ρ) (h4 : B.H0 a = none) (h5 : ∀ (i : Nat) (l' : List D), env[i]? = some (.own l') → σ[i]? ≠ some (some (.ref a))) (h6 : ∀ q ∈ B.xo, q.1 ≠ a) :
    RD T B ρ G (upd H a o) σ env μ := by
  refine ⟨fun b u e => ?_, ⟨R.ext.gg, R.ext.pre, fun b u e => ?_, R.ext.fg, R.ext.fr⟩, R.len, fun i s hs => ?_, R.own, ⟨R.st.len, R.st.nd, R.st.off, fun k m hm => ?_⟩, fun q hq => ?_, R.xn⟩
  · rw [upd_ne (fun q => by rw [q, h2] at e; cases e)]; exact R.gh b u e
  · obtain ⟨o', e1, k⟩ := R.ext.keep b u e
    exact ⟨o', by rw [upd_ne (fun q => by rw [q, h4] at e; cases e)]; exact e1, k⟩
  · have h := R.slot i s hs
    cases s with
    | no => trivial
    | v d => exact h
    | own l =>
      obtain ⟨q, ws, e1, e2, r⟩ := h
      exact ⟨q, ws, e1, by rw [upd_ne (fun z => h5 i l hs (by rw [e1, z]))]; exact e2, r⟩
  · obtain ⟨b, eb, r⟩ := R.st.at_ k m hm
    refine ⟨b, eb, ?_⟩
    have nb : b ≠ a := fun z => h3 (z ▸ List.mem_of_getElem? eb)
    exact r.to (fun _ _ e => e) fun o e1 => by rw [upd_ne nb]; exact e1
  · obtain ⟨e1, e2⟩ := R.xo q hq
    exact ⟨by rw [upd_ne (h6 q hq)]; exact e1, e2⟩
theorem RD.updX (R : RD T (B.add a vs) ρ G H σ env μ) : RD T (B.add a us) ρ G (upd H a (.lst us)) σ env μ := by
  obtain ⟨R0, h1, h2, h3, h4, h5, h6⟩ := R.delX
  exact (R0.writeN ⟨_, h1⟩ h2 h3 h4 h5 h6).addX upd_same h2 h3 h4 h5 h6
end
/-! ### comprehensions -/
def W0 : WX := fun _ _ _ _ => False
def lcRun (tg : DTg) (tt : DEnv → Mu → Res Bool) (el : DEx) (env : DEnv) : List D → Mu → Option (List D × Mu)
  | [], μ => some ([], μ)
  | d :: ds, μ => match tg env d with
    | none => none
    | some env1 => match tt env1 μ with
      | some (.val true, μ1) => (match el env1 μ1 with
        | some (.val d', μ2) => if nobor d' then (match lcRun tg tt el env ds μ2 with
          | some (l, μ3) => some (hold d' :: l, μ3)
          | none => none) else none
        | _ => none)
      | some (.val false, μ1) => lcRun tg tt el env ds μ1
      | _ => none
def lcFin (tg : DTg) (tt : DEnv → Mu → Res Bool) (el : DEx) (env : DEnv) (ds : List D) (μ : Mu) : Res D := match lcRun tg tt el env ds μ with
  | some (l, μ1) => ret (.new l) μ1
  | none => none
def dLc (it : DEnv → Mu → Res (List D)) (own : List Nat) (tg : DTg) (tt : DEnv → Mu → Res Bool) (el : DEx) : DEx := fun env μ => if noOwn env own then bindR (it env μ) (lcFin tg tt el (wipeD env own)) else none
structure DTs (X : Cx) (B : Bs) (W : WX) (ifs : List Expr) (m : DEnv → Mu → Res Bool) : Prop where
  run : PTs X ifs (rdT (tx X) B W m)
def dYes : DEnv → Mu → Res Bool := fun _ μ => ret true μ
theorem dts_nil {X : Cx} {B : Bs} {W : WX} : DTs X B W [] dYes := ⟨⟨fun pins s σ H Q I ⟨ρ, G, env, μ, R, k⟩ => pts_nil.run pins s σ H Q I (k ρ G H (fun _ _ h => h) (.refl _) R)⟩⟩
theorem dts_one {X : Cx} {B : Bs} {W : WX} {c : Expr} {m : DEnv → Mu → Res Bool} (h : DT X B W c m) : DTs X B W [c] m := ⟨pts_one h.run⟩
theorem wipe_wipe {σ : L2.St} {vs : List Nat} : wipe (wipe σ vs) vs = wipe σ vs := by
  have key : ∀ (ws : List Nat), (∀ i ∈ ws, i ∈ vs) → wipe (wipe σ ws) vs = wipe σ vs := by
    intro ws
    induction ws with
    | nil => intro _; rfl
    | cons w ws ih =>
      intro h
      show wipe ((wipe σ ws).set w none) vs = _
      rw [wipe_set (h w List.mem_cons_self)]
      exact ih fun i hi => h i (List.mem_cons_of_mem _ hi)
  exact key vs fun _ h => h
theorem hold_nobor {d : D} (h : nobor d = true) : nobor (hold d) = true := by cases d <;> first | rfl | exact h
section
variable {X : Cx} {B : Bs} {W : WX}
theorem szl_line' {n m : Nat} (h : n < m) (z : szl m) : n < sizeLine := by rw [sizeLine_eq]; exact Nat.lt_of_lt_of_le h z
theorem rd_lc {J : It} {g : TG} {tg : DTg} {is : List Nat} {tt : DEnv → Mu → Res Bool} {el : DEx} {vs : List Nat} {ρ1 : List Addr} {G1 H1 : Hp} {σ : L2.St} {env : DEnv} {μ1 μf : Mu} {ds l : List D} {Q : VK} {T : Tx}
    (gd : GD T.K T.mg g tg is) (his : ∀ i ∈ is, i ∈ vs) (no : noOwn env vs = true) (R1 : RD T B ρ1 G1 H1 σ env μ1) (wk : WalkD T J ρ1 G1 ds) (hr : lcRun tg tt el (wipeD env vs) ds μ1 = some (l, μf))
    (fin : ∀ ρ' G' H' v, Same G1 G' → Pre ρ1 ρ' → RD T B ρ' G' H' σ env μf → RepX T B ρ' G' H' σ env v (.new l) → Q v H') (D : Addr) (hD : H1 D = none) :
    ∃ W : Nat → Nat → Hp → Prop, (∃ m, W 0 m (upd H1 D (.lst []))) ∧ ∀ i m H, W i m H →
      (J.stop i H ∧ Q (.ref D) H) ∨ (J.go i H ∧ ∃ Nx : Hp → Prop, (∀ H', Nx H' → ∃ m', m' < m ∧ W (i + 1) m' H') ∧ ∀ x H', J.yld i H x H' → g x (wipe σ vs) H' fun σ2 H2 => wipe σ2 vs = wipe σ vs ∧ (fun σ H Q => ∃ B', rdT T B' W0 tt σ H Q) σ2 H2 fun b H3 =>
        if b = true then (fun σ H Q => ∃ B', rdE T B' W0 el σ H Q) σ2 H3 fun y H4 => ∃ acc, H4 D = some (.lst acc) ∧ acc.length < sizeLine ∧ Nx (upd H4 D (.lst (acc ++ [y]))) else Nx H3) := by
  obtain ⟨gD, pD, bD⟩ := R1.fresh_ hD
  refine ⟨fun i m H' => ∃ ρ' G' μ' us acc rest, m = ds.length - i ∧ i ≤ ds.length ∧ Same G1 G' ∧ Pre ρ1 ρ' ∧ RD T (B.add D us) ρ' G' H' σ env μ' ∧ Reps T ρ' G' us acc ∧ acc.length ≤ i ∧ lcRun tg tt el (wipeD env vs) (ds.drop i) μ' = some (rest, μf) ∧ acc ++ rest = l, ⟨ds.length, ρ1, G1, μ1, [], [], l, by omega, Nat.zero_le _, fun _ _ h => h, .refl _, ?_, .nil, Nat.le_refl _, hr, rfl⟩, ?_⟩
  · refine (R1.allocN hD).addX upd_same gD pD bD (fun i l' e1 e2 => ?_) fun q hq e => ?_
    · obtain ⟨q, us, e3, e4, _⟩ := R1.slot i _ e1
      rw [e2] at e3; cases e3
      rw [hD] at e4; cases e4
    · have e1 := (R1.xo q hq).1
      rw [e, hD] at e1; cases e1
  · rintro i m H' ⟨ρ', G', μ', us, acc, rest, rfl, hi, s, p, R, ra, la, hrun, hl⟩
    by_cases hlt : i < ds.length
    · have hd : ds[i]? = some ds[i] := by simp [hlt]
      obtain ⟨jg, jy⟩ := wk.go i _ hd ρ' G' H' s p R.gh
      refine .inr ⟨jg, fun H'' => ∃ ρ2 G2 μ2 us2 acc2 rest2, Same G1 G2 ∧ Pre ρ1 ρ2 ∧ RD T (B.add D us2) ρ2 G2 H'' σ env μ2 ∧ Reps T ρ2 G2 us2 acc2 ∧ acc2.length ≤ i + 1 ∧ lcRun tg tt el (wipeD env vs) (ds.drop (i + 1)) μ2 = some (rest2, μf) ∧ acc2 ++ rest2 = l,
        fun H'' ⟨ρ2, G2, μ2, us2, acc2, rest2, h1, h2, h3, h4, h5, h6, h7⟩ => ⟨ds.length - (i + 1), by omega, ρ2, G2, μ2, us2, acc2, rest2, rfl, hlt, h1, h2, h3, h4, h5, h6, h7⟩, fun x H'' hy => ?_⟩
      -- the item, in a heap where it is frozen
      have item : ∃ G2, Same G' G2 ∧ RD T (B.add D us) ρ' G2 H'' σ env μ' ∧ Rep T ρ' G2 x ds[i] := by
        rcases jy x H'' hy with ⟨e, r⟩ | ⟨q, ws, l', hn, e, ex, ed, r, z⟩
        · exact ⟨G', fun _ _ h => h, by rw [e]; exact R, r⟩
        · have gn := (R.fresh_ hn).1
          exact ⟨_, same_upd gn, by rw [e]; exact R.alloc hn, by rw [ex, ed]; exact rep_tup (.inl upd_same) z (r.mono (same_upd gn) (.refl _))⟩
      obtain ⟨G2, s2, R2, rx⟩ := item
      rw [List.drop_eq_getElem_cons hlt] at hrun
      unfold lcRun at hrun
      split at hrun
      · cases hrun
      · rename_i env1 he1
        have hout := gd.out _ _ _ he1
        refine gd.ok (B.add D us) ρ' G2 H'' (wipe σ vs) (wipeD env vs) μ' x _ env1 _ (R2.wipe vs) rx he1 fun σ2 R3 hw ho => ⟨by rw [hw vs his]; exact wipe_wipe, ?_⟩
        have agE : ∀ j, j ∉ vs → env1[j]? = env[j]? := fun j hj => by rw [hout j fun m => hj (his j m), wipeD_out hj]
        have agS : ∀ j, j ∉ vs → σ2[j]? = σ[j]? := fun j hj => by rw [ho j fun m => hj (his j m), wipe_out hj]
        split at hrun
        · rename_i μ2 ht
          refine ⟨B.add D us, ρ', G2, env1, μ', R3, ?_⟩
          rw [ht]
          intro ρ3 G3 H3 s3 p3 R4
          show (if true = true then _ else _)
          rw [if_pos rfl]
          split at hrun
          · rename_i d' μ3 he
            split at hrun
            · rename_i hb
              split at hrun
              · rename_i l3 μ4 hrest
                cases hrun
                refine ⟨B.add D us, ρ3, G3, env1, μ2, R4, ?_⟩
                rw [he]
                intro ρ4 G4 H4 s4 p4 R5 y hy2
                obtain ⟨G5, s5, R6, hh⟩ := hy2.hold R5
                have ry := hh.rep (hold_nobor hb)
                have S : Same G' G5 := ((s2.trans s3).trans s4).trans s5
                have P : Pre ρ' ρ4 := p3.trans p4
                have R7 : RD T (B.add D us) ρ4 G5 H4 σ env μ3 := R.back R6 S P no agE agS
                have hD4 := R7.delX.2.1
                have hul : us.length = acc.length := ra.length
                refine ⟨us, hD4, szl_line' (by omega : us.length < ds.length) wk.sz, ρ4, G5, μ3, us ++ [y], acc ++ [Dv.hold d'], l3, s.trans S, p.trans P, R7.updX, (ra.mono S P).append (.one ry), by simp; omega, hrest, by rw [← hl]; simp⟩
              · cases hrun
            · cases hrun
          · cases hrun
        · rename_i μ2 ht
          refine ⟨B.add D us, ρ', G2, env1, μ', R3, ?_⟩
          rw [ht]
          intro ρ3 G3 H3 s3 p3 R4
          show (if false = true then _ else _)
          rw [if_neg (by decide)]
          have S : Same G' G3 := s2.trans s3
          exact ⟨ρ3, G3, μ2, us, acc, rest, s.trans S, p.trans p3, R.back R4 S p3 no agE agS, ra.mono S p3, by omega, hrun, hl⟩
        · cases hrun
    · have e : i = ds.length := by omega
      subst e
      rw [List.drop_length] at hrun
      unfold lcRun at hrun
      cases hrun
      refine .inl ⟨wk.stop ρ' G' H' s p R.gh, ?_⟩
      obtain ⟨R0, h1, h2, h3, h4, h5, h6⟩ := R.delX
      rw [List.append_nil] at hl
      subst hl
      exact fin ρ' G' H' (.ref D) s p R0 ⟨D, us, rfl, h1, ra, Nat.le_trans la wk.sz, h2, h3, h4, h5, h6⟩
end
end Dv

/-! DvG: comprehensions as expressions, calls of built-ins, subscripts, slices, isinstance. -/
namespace Dv
open PySem PySem.Spec PyProof.Rows L2
section
variable {X : Cx} {B : Bs} {W : WX}
/-- the element's and the tests' readings in a block, whatever list is at hand there -/
def exE (T : Tx) (el : DEx) : TE := fun σ H Q => ∃ B', rdE T B' W0 el σ H Q
def exT (T : Tx) (tt : DEnv → Mu → Res Bool) : TT := fun σ H Q => ∃ B', rdT T B' W0 tt σ H Q
theorem pe_ex {Y : Cx} {e : Expr} {el : DEx} (h : ∀ B, DE Y B W0 e el) : PE Y e (exE (tx Y) el) := ⟨fun pins s σ H Q I ⟨B', q⟩ => (h B').run.run pins s σ H Q I q⟩
theorem pt_ex {Y : Cx} {ifs : List Expr} {tt : DEnv → Mu → Res Bool} (h : ∀ B, DTs Y B W0 ifs tt) : PTs Y ifs (exT (tx Y) tt) := ⟨fun pins s σ H Q I ⟨B', q⟩ => (h B').run.run pins s σ H Q I q⟩
theorem rd_tLc {T : Tx} {it : DEnv → Mu → Res (List D)} {g : TG} {tg : DTg} {is : List Nat} {tt : DEnv → Mu → Res Bool} {el : DEx} {vs : List Nat} (gd : GD T.K T.mg g tg is) (his : ∀ i ∈ is, i ∈ vs) {σ : L2.St} {H : Hp} {Q : VK}
    (h : rdE T B W (dLc it vs tg tt el) σ H Q) : tLc (rdI T B W it) g (exT T tt) (exE T el) vs σ H Q := by
  obtain ⟨ρ, G, env, μ, R, k⟩ := h
  unfold dLc at k
  split at k
  · rename_i no
    refine ⟨ρ, G, env, μ, R, (KE.bind (f := lcFin tg tt el (wipeD env vs)) k).imp fun ρ1 G1 H1 μ1 ds s p R1 k1 J wk => ?_⟩
    unfold lcFin at k1
    split at k1
    · rename_i l μ2 hr
      exact rd_lc gd his no R1 wk hr fun ρ' G' H' v s' p' R' hv => k1 ρ' G' H' s' p' R' v hv
    · exact k1.elim
  · exact k.elim
theorem de_lc {elt tg iter : Expr} {ifs : List Expr} {scope : Scope} {own : List (Str × Nat)} {pos : Pos} {it : DEnv → Mu → Res (List D)} {g : TG} {t : DTg} {is : List Nat} {tt : DEnv → Mu → Res Bool} {el : DEx}
    (hc : X.calm = true) (hN : X.N.Nodup) (hi : DI X B W tg iter it) (ok : BlkOk X.N X.env.scope scope own) (gd : GD X.K X.mg g t is) (his : ∀ i ∈ is, i ∈ own.map (·.2))
    (hg : ∀ (s : Shared) (H : Hp) (C : Addr) (cl : List (Str × Addr)) (fp : List Addr), PG (X.blk s H scope (compEnvC scope cl C X.env) fp) tg g)
    (ht : ∀ (s : Shared) (H : Hp) (C : Addr) (cl : List (Str × Addr)) (fp : List Addr) (B : Bs), DTs (X.blk s H scope (compEnvC scope cl C X.env) fp) B W0 ifs tt)
    (he : ∀ (s : Shared) (H : Hp) (C : Addr) (cl : List (Str × Addr)) (fp : List Addr) (B : Bs), DE (X.blk s H scope (compEnvC scope cl C X.env) fp) B W0 elt el) (hs : ∀ x, foldedSetIterable iter X.env x = pure x := by intro _; rfl) :
    DE X B W (.ListComp elt [⟨tg, iter, ifs, 0⟩] scope pos) (dLc it (own.map (·.2)) t tt el) :=
  ⟨peImp (pe_lc (te := exE (tx X) el) (tt := exT (tx X) tt) hc hN hi.run ok hg (fun s H C cl fp => pt_ex (ht s H C cl fp)) (fun s H C cl fp => pe_ex (he s H C cl fp)) hs) fun _ _ _ h => rd_tLc gd his h⟩
/-! ### calls of what is built in -/
abbrev FA := List D → Mu → Res D
def CallD (T : Tx) (r : List V → Hp → VK → Prop) (f : FA) : Prop := ∀ (B : Bs) (W : WX) (σ : L2.St) (env : DEnv) (ρ : List Addr) (G H : Hp) (μ : Mu) (vs : List V) (ds : List D) (Q : VK),
  RD T B ρ G H σ env μ → HReps T ρ G σ env vs ds → KE T B σ env W (PX T B σ env Q) ρ G (f ds μ) → r vs H Q
def dCall (f : FA) (n : DEnv → Mu → Res (List D)) : DEx := fun env μ => bindR (n env μ) f
theorem rd_call {T : Tx} {r : List V → Hp → VK → Prop} {f : FA} {n : DEnv → Mu → Res (List D)} (hf : CallD T r f) {σ : L2.St} {H : Hp} {Q : VK} (h : rdE T B W (dCall f n) σ H Q) : tCB r (rdA T B W n) σ H Q := by
  obtain ⟨ρ, G, env, μ, R, k⟩ := h
  exact ⟨ρ, G, env, μ, R, (KE.bind (f := f) k).imp fun ρ1 G1 H1 μ1 ds s p R1 k1 vs hvs => hf B W σ env ρ1 G1 H1 μ1 vs ds Q R1 hvs k1⟩
theorem de_callB {x : Str} {p pos : Pos} {e : Expr} {es : List Expr} {n : DEnv → Mu → Res (List D)} {id : String} {r : List V → Hp → VK → Prop} {f : FA} (hc : CallR X (.builtin id) r) (hf : CallD (tx X) r f) (hg : Gl X x) (hm : X.mg x = none) (hv : bootBuiltins x = some (.builtin id)) (ha : DA X B W (e :: es) n)
    (hn : x ≠ "__name__" := by decide) (hdb : (x == ("__debug__" : Str)) = false := by decide) (he : starEach (e :: es) X.env = (false, eval e X.env) :: starEach es X.env := by rfl) (hpl : (backTo pos (starEach es X.env)).any (·.1) = false := by rfl) :
    DE X B W (.Call (.Name x p) (e :: es) [] pos) (dCall f n) := ⟨peImp (pe_callB hc hg hm hv ha.run hn hdb he hpl) fun _ _ _ h => rd_call hf h⟩
theorem de_callTy {x : Str} {p pos : Pos} {e : Expr} {es : List Expr} {n : DEnv → Mu → Res (List D)} {id : String} {r : List V → Hp → VK → Prop} {f : FA} (hc : CallR X (.type id) r) (hf : CallD (tx X) r f) (hg : Gl X x) (hm : X.mg x = none) (hv : bootBuiltins x = some (.type id)) (ha : DA X B W (e :: es) n)
    (hn : x ≠ "__name__" := by decide) (hdb : (x == ("__debug__" : Str)) = false := by decide) (he : starEach (e :: es) X.env = (false, eval e X.env) :: starEach es X.env := by rfl) (hpl : (backTo pos (starEach es X.env)).any (·.1) = false := by rfl) :
    DE X B W (.Call (.Name x p) (e :: es) [] pos) (dCall f n) := ⟨peImp (pe_callTy hc hg hm hv ha.run hn hdb he hpl) fun _ _ _ h => rd_call hf h⟩
/-! ### len, tuple, list, sum, any, all, int -/
section
variable {T : Tx} {ρ : List Addr} {G H : Hp} {σ : L2.St} {env : DEnv} {μ : Mu}
def fLen : FA
  | [.tup l], μ => ret (.int l.length) μ
  | [.lst l], μ => ret (.int l.length) μ
  | [.bor l], μ => ret (.int l.length) μ
  | [.str z], μ => if szl z.length then ret (.int z.length) μ else none
  | _, _ => none
theorem ca_len : CallD (tx X) (fun xs H Q => ∃ x n, xs = [x] ∧ LenV X.K x H n ∧ Q (.int n) H) fLen := by
  intro B W σ env ρ G H μ vs ds Q R h k
  have one : ∀ {d : D} {l : List D}, seqL d = some l → HReps (tx X) ρ G σ env vs [d] → KE (tx X) B σ env W (PX (tx X) B σ env Q) ρ G (ret (.int l.length) μ) → ∃ x n, vs = [x] ∧ LenV X.K x H n ∧ Q (.int n) H := fun {d l} e h k => by
    obtain ⟨v, rfl, hv⟩ := hreps1 h
    obtain ⟨a, us, rfl, q, z, r⟩ := seqL_inv R hv e
    exact ⟨.ref a, l.length, rfl, .inl ⟨us, .of q, r.length.symm⟩, k.here R (.ofR rep_int)⟩
  unfold fLen at k
  split at k
  · obtain ⟨v, rfl, hv⟩ := hreps1 h
    obtain ⟨a, us, rfl, q, z, r⟩ := tup_inv hv
    exact ⟨.ref a, _, rfl, .inr ⟨us, (sqG_mono R.gh q).sq, r.length.symm⟩, k.here R (.ofR rep_int)⟩
  · exact one rfl h k
  · exact one rfl h k
  · split at k
    · rename_i hz
      obtain ⟨v, rfl, hv⟩ := hreps1 h
      rw [str_inv hv]
      exact ⟨_, _, rfl, ⟨szl_line hz, rfl⟩, k.here R (.ofR rep_int)⟩
    · exact k.elim
  · exact k.elim
def fTuple : FA
  | [.tup l], μ => ret (.tup l) μ
  | [.lst l], μ => ret (.tup l) μ
  | [.bor l], μ => ret (.tup l) μ
  | _, _ => none
theorem ca_tuple : CallD (tx X) (fun xs H Q => ∃ p ys, xs = [.ref p] ∧ ((SqL X.K H p ys ∧ ∀ l, H l = none → Q (.ref l) (upd H l (.tup ys))) ∨ (SqT X.K H p ys ∧ Q (.ref p) H))) fTuple := by
  intro B W σ env ρ G H μ vs ds Q R h k
  have one : ∀ {d : D} {l : List D}, seqL d = some l → HReps (tx X) ρ G σ env vs [d] → KE (tx X) B σ env W (PX (tx X) B σ env Q) ρ G (ret (.tup l) μ) → ∃ p ys, vs = [.ref p] ∧ ((SqL X.K H p ys ∧ ∀ l, H l = none → Q (.ref l) (upd H l (.tup ys))) ∨ (SqT X.K H p ys ∧ Q (.ref p) H)) := fun {d l} e h k => by
    obtain ⟨v, rfl, hv⟩ := hreps1 h
    obtain ⟨a, us, rfl, q, z, r⟩ := seqL_inv R hv e
    exact ⟨a, us, rfl, .inl ⟨.of q, k.newT R r z⟩⟩
  unfold fTuple at k
  split at k
  · obtain ⟨v, rfl, hv⟩ := hreps1 h
    obtain ⟨a, us, rfl, q, z, r⟩ := tup_inv hv
    exact ⟨a, us, rfl, .inr ⟨(sqG_mono R.gh q).sq, k.here R (.ofR (rep_tup q z r))⟩⟩
  · exact one rfl h k
  · exact one rfl h k
  · exact k.elim
def fList : FA
  | [.tup l], μ => ret (.new l) μ
  | [.lst l], μ => ret (.new l) μ
  | [.bor l], μ => ret (.new l) μ
  | _, _ => none
theorem ca_list : CallD (tx X) (fun xs H Q => ∃ p ys, xs = [.ref p] ∧ (SqL X.K H p ys ∨ SqT X.K H p ys) ∧ ∀ l, H l = none → Q (.ref l) (upd H l (.lst ys))) fList := by
  intro B W σ env ρ G H μ vs ds Q R h k
  have one : ∀ {d : D} {l : List D}, seqL d = some l → HReps (tx X) ρ G σ env vs [d] → KE (tx X) B σ env W (PX (tx X) B σ env Q) ρ G (ret (.new l) μ) → ∃ p ys, vs = [.ref p] ∧ (SqL X.K H p ys ∨ SqT X.K H p ys) ∧ ∀ l, H l = none → Q (.ref l) (upd H l (.lst ys)) := fun {d l} e h k => by
    obtain ⟨v, rfl, hv⟩ := hreps1 h
    obtain ⟨a, us, rfl, q, z, r⟩ := seqL_inv R hv e
    exact ⟨a, us, rfl, .inl (.of q), k.newL R r z⟩
  unfold fList at k
  split at k
  · obtain ⟨v, rfl, hv⟩ := hreps1 h
    obtain ⟨a, us, rfl, q, z, r⟩ := tup_inv hv
    exact ⟨a, us, rfl, .inr (sqG_mono R.gh q).sq, k.newL R r z⟩
  · exact one rfl h k
  · exact one rfl h k
  · exact k.elim
def asInt : D → Option Int
  | .int i => some i
  | _ => none
def asBl : D → Option Bool
  | .bl i => some i
  | _ => none
def asInts : List D → Option (List Int)
  | [] => some []
  | d :: ds => (match asInt d, asInts ds with
    | some i, some l => some (i :: l)
    | _, _ => none)
def asBls : List D → Option (List Bool)
  | [] => some []
  | d :: ds => (match asBl d, asBls ds with
    | some i, some l => some (i :: l)
    | _, _ => none)
theorem asInts_inv : ∀ {l : List D} {ns : List Int} {vs : List V}, asInts l = some ns → Reps T ρ G vs l → vs = ns.map V.int
  | [], ns, vs, e, r => by unfold asInts at e; cases e; rw [r.inv0]; rfl
  | d :: ds, ns, vs, e, r => by
    unfold asInts at e
    split at e
    · rename_i i l e1 e2
      cases e
      obtain ⟨v, t, rfl, q, rs⟩ := r.inv
      cases d with
      | int j =>
        cases e1
        unfold Rep at q
        rw [q, asInts_inv e2 rs]; rfl
      | _ => cases e1
    · cases e
theorem asBls_inv : ∀ {l : List D} {ns : List Bool} {vs : List V}, asBls l = some ns → Reps T ρ G vs l → vs = ns.map V.bl
  | [], ns, vs, e, r => by unfold asBls at e; cases e; rw [r.inv0]; rfl
  | d :: ds, ns, vs, e, r => by
    unfold asBls at e
    split at e
    · rename_i i l e1 e2
      cases e
      obtain ⟨v, t, rfl, q, rs⟩ := r.inv
      cases d with
      | bl j =>
        cases e1
        unfold Rep at q
        rw [q, asBls_inv e2 rs]; rfl
      | _ => cases e1
    · cases e
def fAll : FA
  | [d], μ => (match seqL d with
    | some l => (match asBls l with
      | some ns => ret (.bl (ns.all id)) μ
      | none => none)
    | none => none)
  | _, _ => none
theorem ca_all : CallD (tx X) (rAll X.K) fAll := by
  intro B W σ env ρ G H μ vs ds Q R h k
  unfold fAll at k
  split at k
  · split at k
    · split at k
      · rename_i e1 _ ns e2
        obtain ⟨v, rfl, hv⟩ := hreps1 h
        obtain ⟨a, us, rfl, q, z, r⟩ := seqL_inv R hv e1
        exact ⟨a, ns, rfl, by rw [← asBls_inv e2 r]; exact .of q, k.here R (.ofR rep_bl)⟩
      · exact k.elim
    · exact k.elim
  · exact k.elim
def fInt : FA
  | [.int i], μ => ret (.int i) μ
  | [.bl b], μ => ret (.int (if b then 1 else 0)) μ
  | _, _ => none
theorem ca_int : CallD (tx X) (fun xs H Q => (∃ i, xs = [.int i] ∧ Q (.int i) H) ∨ ∃ k, xs = [.bl k] ∧ Q (.int (if k then 1 else 0)) H) fInt := by
  intro B W σ env ρ G H μ vs ds Q R h k
  unfold fInt at k
  split at k
  · obtain ⟨v, rfl, hv⟩ := hreps1 h
    exact .inl ⟨_, by rw [int_inv hv], k.here R (.ofR rep_int)⟩
  · obtain ⟨v, rfl, hv⟩ := hreps1 h
    exact .inr ⟨_, by rw [bl_inv hv], k.here R (.ofR rep_int)⟩
  · exact k.elim
/-! ### isinstance, built-in types -/
def tyN : D → Option String
  | .non => some "NoneType"
  | .bl _ => some "bool"
  | .int _ => some "int"
  | .str _ => some "str"
  | .tup _ => some "tuple"
  | .lst _ => some "list"
  | .bor _ => some "list"
  | _ => none
def isTy (a b : String) : Bool := a == b || (a == "bool" && b == "int")
def okTy (b : String) : Bool := ["int", "bool", "str", "tuple", "list"].contains b
theorem kitB_is : ∀ a ∈ ["NoneType", "bool", "int", "str", "tuple", "list"], ∀ b ∈ ["int", "bool", "str", "tuple", "list"], kitB a b = some (isTy a b) := by decide +kernel
theorem tyN_mem {d : D} {a : String} (h : tyN d = some a) : a ∈ ["NoneType", "bool", "int", "str", "tuple", "list"] := by
  cases d <;> first | (cases h; simp) | cases h
theorem kit_is {K : PySem.W.Frag} {d : D} {a b : String} (h : tyN d = some a) (hb : okTy b = true) : PySem.W.kitOne K (.type a) (.type b) = some (isTy a b) :=
  kit_ty (kitB_is a (tyN_mem h) b (by unfold okTy at hb; simpa using hb))
theorem tyX_of {B : Bs} {x : V} {d : D} {a : String} (R : RD T B ρ G H σ env μ) (h : HeldR T ρ G σ env x d) (e : tyN d = some a) : TyX T.K H x (.type a) := by
  cases d with
  | non => cases e; have h : Rep T ρ G x .non := h; unfold Rep at h; subst h; exact .base .non
  | bl b => cases e; rw [bl_inv h]; exact .base (.bl b)
  | int b => cases e; rw [int_inv h]; exact .base (.int b)
  | str b => cases e; rw [str_inv h]; exact .base (.str b)
  | tup l =>
    cases e
    obtain ⟨a, us, rfl, q, _⟩ := tup_inv h
    rcases q with q | ⟨o, its, n, h1, h2, _⟩
    · exact .base (.tup (R.gh _ _ q))
    · exact .kTuple h1 h2
  | lst l =>
    cases e
    obtain ⟨a, us, rfl, q, _⟩ := lst_inv h
    exact .base (.lst (R.gh _ _ q))
  | bor l =>
    cases e
    obtain ⟨a, us, rfl, q, _⟩ := seqL_inv (d := .bor l) R h rfl
    exact .base (.lst q)
  | _ => cases e
def asTys : List D → Option (List String)
  | [] => some []
  | .ty n :: ds => (match asTys ds with
    | some l => if okTy n then some (n :: l) else none
    | none => none)
  | _ :: _ => none
def fIsi : FA
  | [d, .ty b], μ => (match tyN d with
    | some a => if okTy b then ret (.bl (isTy a b)) μ else none
    | none => none)
  | [d, .tup l], μ => (match tyN d, asTys l with
    | some a, some bs => ret (.bl (bs.any (isTy a))) μ
    | _, _ => none)
  | _, _ => none
theorem asTys_inv {a : String} {d : D} (ha : tyN d = some a) : ∀ {l : List D} {bs : List String} {vs : List V}, asTys l = some bs → Reps T ρ G vs l → Paired ClsV vs (bs.map Value.type) ∧ PySem.W.kitAny T.K (.type a) (bs.map Value.type) = some (bs.any (isTy a))
  | [], bs, vs, e, r => by unfold asTys at e; cases e; rw [r.inv0]; exact ⟨.nil, kitAny_nil⟩
  | d' :: ds, bs, vs, e, r => by
    unfold asTys at e
    split at e
    · rename_i z; cases z
    · rename_i n ds' heq
      cases heq
      split at e
      · rename_i l e2
        split at e
        · rename_i hok
          cases e
          obtain ⟨v, t, rfl, q, rs⟩ := r.inv
          unfold Rep at q
          obtain ⟨p1, p2⟩ := asTys_inv ha e2 rs
          refine ⟨.cons (by rw [q]; exact .ty n) p1, ?_⟩
          refine kitAny_cons (kit_is ha hok) (fun z => ?_) fun z => ?_
          · rw [List.any_cons, z, Bool.false_or]; exact p2
          · rw [List.any_cons, z, Bool.true_or]
        · cases e
      · cases e
    · cases e
theorem ca_isi : CallD (tx X) (fun xs H Q => rIsi X.K xs H Q ∨ rIsiT X.K xs H Q ∨ rIsiK X.K xs H Q) fIsi := by
  intro B W σ env ρ G H μ vs ds Q R h k
  unfold fIsi at k
  split at k
  · split at k
    · rename_i d b _ a ha
      split at k
      · rename_i hok
        obtain ⟨v, u, rfl, hv, hu⟩ := hreps2 h
        have hu : Rep (tx X) ρ G u (.ty b) := hu
        unfold Rep at hu
        exact .inl ⟨v, u, _, _, _, rfl, by rw [hu]; exact .ty b, tyX_of R hv ha, kit_is ha hok, k.here R (.ofR rep_bl)⟩
      · exact k.elim
    · exact k.elim
  · split at k
    · rename_i d l _ _ a bs ha hb
      obtain ⟨v, u, rfl, hv, hu⟩ := hreps2 h
      obtain ⟨t, cs, rfl, q, z, r⟩ := tup_inv hu
      obtain ⟨p1, p2⟩ := asTys_inv ha hb r
      rcases q with q | ⟨o, its, n, h1, h2, h3, _, h5⟩
      · exact .inr (.inl ⟨v, t, cs, _, _, _, rfl, R.gh _ _ q, p1, tyX_of R hv ha, p2, k.here R (.ofR rep_bl)⟩)
      · obtain ⟨oc, od, dt, sl⟩ := o
        simp only at h2 h3
        subst h2 h3
        have e := ClsV.all p1 h5
        exact .inr (.inr ⟨v, t, od, bs.map Value.type, n, sl, _, _, rfl, by rw [h1, ← e], tyX_of R hv ha, p2, k.here R (.ofR rep_bl)⟩)
    · exact k.elim
  · exact k.elim
end
end
end Dv

/-! DvH: subscripts, slices; statements; defs and their calls. -/
namespace Dv
open PySem PySem.Spec PyProof.Rows L2
section
variable {X : Cx} {B : Bs} {W : WX}
/-! ### subscripts -/
theorem atI_reps {T : Tx} {ρ : List Addr} {G : Hp} {l : List D} {vs : List V} {i : Int} {d : D} (r : Reps T ρ G vs l) (h : atI l i = some d) : ∃ v, atI vs i = some v ∧ Rep T ρ G v d := by
  unfold atI at h ⊢
  rw [r.length]
  cases e : ixN l.length i with
  | none => rw [e] at h; cases h
  | some j =>
    rw [e] at h
    exact r.get (show l[j]? = some d from h)
def fIx : F2
  | .tup l, .int i, μ => (match atI l i with
    | some d => ret d μ
    | none => none)
  | .lst l, .int i, μ => (match atI l i with
    | some d => ret d μ
    | none => none)
  | .bor l, .int i, μ => (match atI l i with
    | some d => ret d μ
    | none => none)
  | .str z, .int i, μ => (match atI z.cps.toList i with
    | some c => if szl z.length then ret (.str ⟨#[c]⟩) μ else none
    | none => none)
  | _, _, _ => none
theorem opd_ix : OpD (tx X) (rIx X.K) fIx := by
  intro B W σ env ρ G H μ x y d d' Q R hx hy k
  have one : ∀ {l : List D} {i : Int} {d' : D}, seqL d = some l → HeldR (tx X) ρ G σ env y (.int i) → atI l i = some d' → KE (tx X) B σ env W (PX (tx X) B σ env Q) ρ G (ret d' μ) → rIx X.K x y H Q := fun {l i d'} e hy ha k => by
    obtain ⟨a, us, rfl, q, z, r⟩ := seqL_inv R hx e
    obtain ⟨v, e1, r1⟩ := atI_reps r ha
    exact .inl ⟨a, us, i, v, rfl, int_inv hy, .of q, e1, k.here R (.ofR r1)⟩
  unfold fIx at k
  split at k
  · split at k
    · rename_i ha
      obtain ⟨a, us, rfl, q, z, r⟩ := tup_inv hx
      obtain ⟨v, e1, r1⟩ := atI_reps r ha
      exact .inr (.inl ⟨a, us, _, v, rfl, int_inv hy, (sqG_mono R.gh q).sq, e1, k.here R (.ofR r1)⟩)
    · exact k.elim
  · split at k
    · rename_i ha
      exact one rfl hy ha k
    · exact k.elim
  · split at k
    · rename_i ha
      exact one rfl hy ha k
    · exact k.elim
  · split at k
    · rename_i ha
      split at k
      · rename_i hz
        exact .inr (.inr ⟨_, _, _, str_inv hx, int_inv hy, szl_line hz, ha, k.here R (.ofR rep_str)⟩)
      · exact k.elim
    · exact k.elim
  · exact k.elim
/-! ### slices -/
def cutD {α : Type} (l : List α) (lo hi : Option Int) : List α := (l.drop (HT.sIx l.length 0 lo)).take (HT.sIx l.length l.length hi - HT.sIx l.length 0 lo)
theorem cut_reps {T : Tx} {ρ : List Addr} {G : Hp} {l : List D} {vs : List V} {lo hi : Option Int} (r : Reps T ρ G vs l) : Reps T ρ G (cutV vs lo hi) (cutD l lo hi) := by
  unfold cutV cutD
  rw [r.length]
  exact (r.drop _).take _
theorem cut_len {α : Type} (l : List α) (lo hi : Option Int) : (cutD l lo hi).length ≤ l.length := by
  unfold cutD
  rw [List.length_take, List.length_drop]; omega
theorem slOr {r r' : V → Option Int → Option Int → Hp → VK → Prop} (h : L2.SlR X r) (h' : L2.SlR X r') : L2.SlR X (fun x lo hi H Q => r x lo hi H Q ∨ r' x lo hi H Q) :=
  fun pins s σ H x v vl vu lo hi sl Q I rx hs pl pu q => q.elim (h pins s σ H x v vl vu lo hi sl Q I rx hs pl pu) (h' pins s σ H x v vl vu lo hi sl Q I rx hs pl pu)
def rSl2 (K : PySem.W.Frag) : V → Option Int → Option Int → Hp → VK → Prop := fun x lo hi H Q => rSlL K x lo hi H Q ∨ rSlA K x lo hi H Q
theorem sl_two : L2.SlR X (rSl2 X.K) := slOr sl_list sl_tupA
def rdO (T : Tx) (B : Bs) (W : WX) (m : DEnv → Mu → Res (Option Int)) : TO := fun σ H Q => ∃ ρ G env μ, RD T B ρ G H σ env μ ∧ KE T B σ env W (fun _ _ H' _ o => Q o H') ρ G (m env μ)
structure DO (X : Cx) (B : Bs) (W : WX) (e : Option Expr) (m : DEnv → Mu → Res (Option Int)) : Prop where
  run : PO X e (rdO (tx X) B W m)
theorem poImp {e : Option Expr} {t t' : TO} (h : PO X e t) (i : ∀ σ H Q, t' σ H Q → t σ H Q) : PO X e t' := ⟨fun pins s σ H Q I q => h.run pins s σ H Q I (i σ H Q q)⟩
def dNoPart : DEnv → Mu → Res (Option Int) := fun _ μ => ret none μ
def fPart : D → Mu → Res (Option Int)
  | .int i, μ => ret (some i) μ
  | _, _ => none
def dPart (m : DEx) : DEnv → Mu → Res (Option Int) := fun env μ => bindR (m env μ) fPart
theorem do_none : DO X B W none dNoPart := ⟨poImp po_none fun σ H Q ⟨ρ, G, env, μ, R, k⟩ => k ρ G H (fun _ _ h => h) (.refl _) R⟩
theorem do_some {e : Expr} {m : DEx} (h : DE X B W e m) : DO X B W (some e) (dPart m) := by
  refine ⟨poImp (po_some h.run) fun σ H Q ⟨ρ, G, env, μ, R, k⟩ => rd_then (f := fPart) R k fun ρ1 G1 H1 μ1 x d s p R1 hx k1 => ?_⟩
  unfold fPart at k1
  split at k1
  · exact ⟨_, int_inv hx, k1 ρ1 G1 H1 (fun _ _ h => h) (.refl _) R1⟩
  · exact k1.elim
def fSl (d : D) (lo hi : Option Int) (μ : Mu) : Res D := match d with
  | .lst l => ret (.new (cutD l lo hi)) μ
  | .bor l => ret (.new (cutD l lo hi)) μ
  | .tup l => ret (.tup (cutD l lo hi)) μ
  | .scr l => ret (.new (cutD l lo hi)) μ
  | _ => none
def dSl (m : DEx) (lo hi : DEnv → Mu → Res (Option Int)) : DEx := fun env μ => bindR (m env μ) fun d μ => bindR (lo env μ) fun l μ => bindR (hi env μ) fun h μ => fSl (hold d) l h μ
theorem de_slice {e : Expr} {lo hi : Option Expr} {pos p2 : Pos} {m : DEx} {ml mh : DEnv → Mu → Res (Option Int)} (he : DE X B W e m) (hl : DO X B W lo ml) (hh : DO X B W hi mh) : DE X B W (.Subscript e (.Slice lo hi none p2) pos) (dSl m ml mh) := by
  refine ⟨peImp (pe_slice sl_two he.run hl.run hh.run) fun σ H Q ⟨ρ, G, env, μ, R, k⟩ => ?_⟩
  refine rd_then (f := fun d μ => bindR (ml env μ) fun l μ => bindR (mh env μ) fun h μ => fSl (hold d) l h μ) R k fun ρ1 G1 H1 μ1 x d s p R1 hx k1 => ?_
  refine ⟨ρ1, G1, env, μ1, R1, (KE.bind (f := fun l μ => bindR (mh env μ) fun h μ => fSl (hold d) l h μ) k1).imp fun ρ2 G2 H2 μ2 l s2 p2 R2 k2 => ?_⟩
  refine ⟨ρ2, G2, env, μ2, R2, (KE.bind (f := fun h μ => fSl (hold d) l h μ) k2).imp fun ρ3 G3 H3 μ3 h s3 p3 R3 k3 => ?_⟩
  have hx3 := (hx.mono s2 p2).mono s3 p3
  have one : ∀ {d : D} {l' : List D}, seqL d = some l' → HeldR (tx X) ρ3 G3 σ env x d → KE (tx X) B σ env W (PX (tx X) B σ env Q) ρ3 G3 (ret (.new (cutD l' l h)) μ3) → rSl2 X.K x l h H3 Q := fun {d l'} e hx k => by
    obtain ⟨a, us, rfl, q, z, r⟩ := seqL_inv R3 hx e
    exact .inl ⟨a, us, rfl, .of q, k.newL R3 (cut_reps r) (Nat.le_trans (cut_len _ _ _) z)⟩
  unfold fSl at k3
  split at k3
  · rename_i l' e; rw [e] at hx3; exact one rfl hx3 k3
  · rename_i l' e; rw [e] at hx3; exact one rfl hx3 k3
  · rename_i l' e
    rw [e] at hx3
    obtain ⟨a, us, rfl, q, z, r⟩ := tup_inv hx3
    have hlen := r.length
    refine .inr ⟨a, us, rfl, (sqG_mono R3.gh q).sq, fun ⟨h1, h2⟩ => ?_, fun _ => k3.newT R3 (cut_reps r) (Nat.le_trans (cut_len _ _ _) z)⟩
    have e1 : cutD l' l h = l' := by
      unfold cutD
      rw [← hlen, h1, h2]; simp [hlen]
    rw [e1] at k3
    exact k3.here R3 (.ofR (rep_tup q z r))
  · rename_i l' e
    rw [e] at hx3
    have hx3 : Rep (tx X) ρ3 G3 x (.scr l') := hx3
    unfold Rep at hx3
    obtain ⟨a, us, rfl, q, z, r⟩ := hx3
    exact .inl ⟨a, us, rfl, sqL_mono R3.gh q, k3.newL R3 (cut_reps r) (Nat.le_trans (cut_len _ _ _) z)⟩
  · exact k3.elim
end

/-! ### statements -/
inductive Fl where
  | nx | ret (d : D) | brk | ct
abbrev RS := Option (Out Fl × DEnv × Mu)
abbrev DSt := DEnv → Mu → RS
def KS (T : Tx) (B : Bs) (W : WX) (D : Ends) (ρ : List Addr) (G : Hp) : RS → Prop
  | some (.val .nx, env', μ') => ∀ σ' ρ' G' H', Same G G' → Pre ρ ρ' → RD T B ρ' G' H' σ' env' μ' → D.nx σ' H'
  | some (.val .brk, env', μ') => ∀ σ' ρ' G' H', Same G G' → Pre ρ ρ' → RD T B ρ' G' H' σ' env' μ' → D.bk σ' H'
  | some (.val .ct, env', μ') => ∀ σ' ρ' G' H', Same G G' → Pre ρ ρ' → RD T B ρ' G' H' σ' env' μ' → D.ct σ' H'
  | some (.val (.ret d), _, μ') => ∀ σ' env' ρ' G' H' v, Same G G' → Pre ρ ρ' → RD T B ρ' G' H' σ' env' μ' → RepX T B ρ' G' H' σ' env' v d → D.rt v H'
  | some (.exc x, env', μ') => ∀ σ' ρ' G' H' cls dd, Same G G' → Pre ρ ρ' → RD T B ρ' G' H' σ' env' μ' → ExR T ρ' G' H' cls dd x → W cls dd σ' H'
  | none => False
def rdS (T : Tx) (B : Bs) (W : WX) (m : DSt) : TS := fun D σ H => ∃ ρ G env μ, RD T B ρ G H σ env μ ∧ KS T B W D ρ G (m env μ)
structure DS (X : Cx) (B : Bs) (W : WX) (st : Stmt) (m : DSt) : Prop where
  run : PS X st (rdS (tx X) B W m)
structure DSs (X : Cx) (B : Bs) (W : WX) (sts : List Stmt) (m : DSt) : Prop where
  run : PSs X sts (rdS (tx X) B W m)
section
variable {X : Cx} {B : Bs} {W : WX} {T : Tx} {st : Stmt} {sts : List Stmt}
theorem psImp {t t' : TS} (h : PS X st t) (i : ∀ D σ H, t' D σ H → t D σ H) : PS X st t' := ⟨fun pins s σ H D I q => h.run pins s σ H D I (i D σ H q)⟩
theorem pssImp {t t' : TS} (h : PSs X sts t) (i : ∀ D σ H, t' D σ H → t D σ H) : PSs X sts t' := ⟨fun pins s σ H D I q => h.run pins s σ H D I (i D σ H q)⟩
theorem KS.weak {D : Ends} {ρ ρ' : List Addr} {G G' : Hp} {r : RS} (h : KS T B W D ρ G r) (s : Same G G') (p : Pre ρ ρ') : KS T B W D ρ' G' r := by
  match r, h with
  | some (.val .nx, env, μ), h => exact fun σ2 ρ2 G2 H2 s2 p2 R => h σ2 ρ2 G2 H2 (s.trans s2) (p.trans p2) R
  | some (.val .brk, env, μ), h => exact fun σ2 ρ2 G2 H2 s2 p2 R => h σ2 ρ2 G2 H2 (s.trans s2) (p.trans p2) R
  | some (.val .ct, env, μ), h => exact fun σ2 ρ2 G2 H2 s2 p2 R => h σ2 ρ2 G2 H2 (s.trans s2) (p.trans p2) R
  | some (.val (.ret d), env, μ), h => exact fun σ2 e2 ρ2 G2 H2 v s2 p2 R => h σ2 e2 ρ2 G2 H2 v (s.trans s2) (p.trans p2) R
  | some (.exc x, env, μ), h => exact fun σ2 ρ2 G2 H2 c d s2 p2 R => h σ2 ρ2 G2 H2 c d (s.trans s2) (p.trans p2) R
/-- a value, then a statement's rest -/
@[reducible] def bindS {α : Type} (env : DEnv) (r : Res α) (f : α → Mu → RS) : RS := match r with
  | some (.val a, μ) => f a μ
  | some (.exc x, μ) => some (.exc x, env, μ)
  | none => none
theorem KS.bind {α : Type} {D : Ends} {ρ : List Addr} {G : Hp} {σ : L2.St} {env : DEnv} {r : Res α} {f : α → Mu → RS} (h : KS T B W D ρ G (bindS env r f)) : KE T B σ env W (fun ρ1 G1 _ μ1 a => KS T B W D ρ1 G1 (f a μ1)) ρ G r := by
  match r, h with
  | some (.val a, μ), h => exact fun ρ2 G2 H2 s2 p2 R => KS.weak (r := f a μ) h s2 p2
  | some (.exc x, μ), h => exact fun ρ2 G2 H2 c d s2 p2 R e => h σ ρ2 G2 H2 c d s2 p2 R e
def dSkip : DSt := fun env μ => some (.val .nx, env, μ)
def dSeq (a b : DSt) : DSt := fun env μ => match a env μ with
  | some (.val .nx, env', μ') => b env' μ'
  | r => r
theorem dss_nil : DSs X B W [] dSkip := ⟨pssImp pss_nil fun D σ H ⟨ρ, G, env, μ, R, k⟩ => k σ ρ G H (fun _ _ h => h) (.refl _) R⟩
theorem dss_cons {a b : DSt} (h : DS X B W st a) (g : DSs X B W sts b) : DSs X B W (st :: sts) (dSeq a b) := by
  refine ⟨pssImp (pss_cons h.run g.run) fun D σ H ⟨ρ, G, env, μ, R, k⟩ => ⟨ρ, G, env, μ, R, ?_⟩⟩
  unfold dSeq at k
  cases hr : a env μ with
  | none => rw [hr] at k; exact k.elim
  | some q =>
    obtain ⟨o, e', μ'⟩ := q
    rw [hr] at k
    cases o with
    | exc x => exact k
    | val f =>
      cases f with
      | nx => exact fun σ' ρ' G' H' s p R' => ⟨ρ', G', e', μ', R', KS.weak (r := b e' μ') k s p⟩
      | ret d => exact k
      | brk => exact k
      | ct => exact k
theorem dss_one {a : DSt} (h : DS X B W st a) : DSs X B W [st] a := ⟨pss_one h.run⟩
/-! ### small ones -/
def dCont : DSt := fun env μ => some (.val .ct, env, μ)
theorem ds_cont {pos : Pos} : DS X B W (.Continue pos) dCont := ⟨psImp ps_continue fun D σ H ⟨ρ, G, env, μ, R, k⟩ => k σ ρ G H (fun _ _ h => h) (.refl _) R⟩
def unbor : D → D
  | .bor l => .new l
  | d => d
def dRet (m : DEx) : DSt := fun env μ => bindS env (m env μ) fun d μ => some (.val (.ret (unbor d)), env, μ)
/-- a list of one's own is given away -/
theorem RepX.unbor {ρ : List Addr} {G H : Hp} {σ : L2.St} {env : DEnv} {μ : Mu} {v : V} {d : D} (R : RD T B ρ G H σ env μ) (h : RepX T B ρ G H σ env v d) : ∃ env', RD T B ρ G H σ env' μ ∧ RepX T B ρ G H σ env' v (unbor d) := by
  cases d with
  | bor l =>
    obtain ⟨i, p, e1, e2, rfl⟩ := h
    obtain ⟨p', vs, e3, e4, e5, e6, e7, e8, e9⟩ := R.slot i _ e1
    rw [e2] at e3; cases e3
    have R' : RD T B ρ G H (σ.set i (some (.ref p))) (env.set i .no) μ := R.setG (fun _ => by simp) fun d' e => by cases e
    have eσ : σ.set i (some (.ref p)) = σ := by
      apply List.ext_getElem?
      intro j
      by_cases q : i = j
      · subst q
        rw [List.getElem?_set_self (List.getElem?_eq_some_iff.mp e2).1, e2]
      · rw [List.getElem?_set_ne q]
    rw [eσ] at R'
    refine ⟨env.set i .no, R', p, vs, rfl, e4, e5, e6, e7, e8, e9, fun j l' h1 h2 => ?_, fun q hq e => ?_⟩
    · obtain ⟨n, o⟩ := own_of_set (fun _ => by simp) h1
      exact n (R.own j i l' l p o e1 h2 e2)
    · have z := (R.xo q hq).2.2.2.2 i l e1
      rw [e] at z
      exact z e2
  | _ => exact ⟨env, R, h⟩
theorem ds_ret {e : Expr} {m : DEx} {pos : Pos} (h : DE X B W e m) : DS X B W (.Return (some e) pos) (dRet m) := by
  refine ⟨psImp (ps_ret h.run) fun D σ H ⟨ρ, G, env, μ, R, k⟩ => ⟨ρ, G, env, μ, R, (KS.bind k).imp fun ρ1 G1 H1 μ1 d s p R1 k1 v hv => ?_⟩⟩
  obtain ⟨env', R2, h2⟩ := hv.unbor R1
  exact k1 σ env' ρ1 G1 H1 v (fun _ _ h => h) (.refl _) R2 h2
def dDrop (m : DEx) : DSt := fun env μ => bindS env (m env μ) fun _ μ => some (.val .nx, env, μ)
theorem ds_expr {e : Expr} {m : DEx} {pos : Pos} (h : DE X B W e m) (hs : swapsWith e none pos.line X.env = pure false := by rfl) : DS X B W (.Expr e pos) (dDrop m) :=
  ⟨psImp (ps_expr h.run hs) fun D σ H ⟨ρ, G, env, μ, R, k⟩ => ⟨ρ, G, env, μ, R, (KS.bind k).imp fun ρ1 G1 H1 μ1 d s p R1 k1 v hv => k1 σ ρ1 G1 H1 (fun _ _ h => h) (.refl _) R1⟩⟩
def dIfS (t : DEnv → Mu → Res Bool) (a b : DSt) : DSt := fun env μ => bindS env (t env μ) fun c μ => if c = true then a env μ else b env μ
theorem ds_if {c : Expr} {t : DEnv → Mu → Res Bool} {s1 s2 : List Stmt} {a b : DSt} {pos : Pos} (hc : DT X B W c t) (h1 : DSs X B W s1 a) (h2 : DSs X B W s2 b) : DS X B W (.If c s1 s2 pos) (dIfS t a b) := by
  refine ⟨psImp (ps_if hc.run h1.run h2.run) fun D σ H ⟨ρ, G, env, μ, R, k⟩ => ⟨ρ, G, env, μ, R, (KS.bind k).imp fun ρ1 G1 H1 μ1 c s p R1 k1 => ?_⟩⟩
  cases c with
  | true => exact ⟨ρ1, G1, env, μ1, R1, k1⟩
  | false => exact ⟨ρ1, G1, env, μ1, R1, k1⟩
/-! ### stores -/
def dAsg (m : DEx) (t : DTg) : DSt := fun env μ => bindS env (m env μ) fun d μ => if nobor d then (match t env (hold d) with
    | some env' => some (.val .nx, env', μ)
    | none => none) else none
theorem ds_asgG {te : TE} {g : TG} {m : DEx} {t : DTg} {is : List Nat} (h : PS X st (tAsg te g)) (i : ∀ σ H Q, rdE (tx X) B W m σ H Q → te σ H Q) (gd : GD X.K X.mg g t is) : DS X B W st (dAsg m t) := by
  refine ⟨psImp h fun D σ H ⟨ρ, G, env, μ, R, k⟩ => i σ H _ ⟨ρ, G, env, μ, R, (KS.bind k).imp fun ρ1 G1 H1 μ1 d s p R1 k1 v hv => ?_⟩⟩
  split at k1
  · rename_i hb
    split at k1
    · rename_i env' he
      obtain ⟨G2, s2, R2, h2⟩ := hv.hold R1
      exact gd.ok B ρ1 G2 H1 σ env μ1 v _ env' _ R2 (h2.rep (hold_nobor hb)) he fun σ' R3 _ _ => k1 σ' ρ1 G2 H1 s2 (.refl _) R3
    · exact k1.elim
  · exact k1.elim
theorem ds_set {i : Nat} {x : Str} {e : Expr} {m : DEx} {pos pos' : Pos} (hN : X.N.Nodup) (hi : X.N[i]? = some x) (hx : Loc X.env.scope x) (he : DE X B W e m) (hs : swapsWith e (some (.Name x pos')) pos.line X.env = pure false := by rfl)
    (hf : X.fn x = true ∨ X.env.scope.names.lookup x = some .local := by first | exact .inl rfl | exact .inr rfl | assumption) : DS X B W (.Assign [.Name x pos'] e pos) (dAsg m (tName i)) :=
  ds_asgG (ps_set hN hi hx he.run hs hf) (fun _ _ _ h => h) gd_name
/-! ### for -/
def forRun (tg : DTg) (body : DSt) : List D → DEnv → Mu → RS
  | [], env, μ => some (.val .nx, env, μ)
  | d :: ds, env, μ => (match tg env d with
    | none => none
    | some env1 => (match body env1 μ with
      | some (.val .nx, env2, μ2) => forRun tg body ds env2 μ2
      | some (.val .ct, env2, μ2) => forRun tg body ds env2 μ2
      | some (.val .brk, env2, μ2) => some (.val .nx, env2, μ2)
      | r => r))
def dFor (it : DEnv → Mu → Res (List D)) (tg : DTg) (body : DSt) : DSt := fun env μ => bindS env (it env μ) fun ds μ => forRun tg body ds env μ
theorem rd_for {J : It} {g : TG} {tg : DTg} {is : List Nat} {body : DSt} {De : Ends} {ρ1 : List Addr} {G1 H1 : Hp} {σ : L2.St} {env : DEnv} {μ1 : Mu} {ds : List D} (gd : GD T.K T.mg g tg is) (R1 : RD T B ρ1 G1 H1 σ env μ1) (wk : WalkD T J ρ1 G1 ds)
    (k : KS T B W De ρ1 G1 (forRun tg body ds env μ1)) : ∃ Wv : Nat → Nat → L2.St → Hp → Prop, (∃ m, Wv 0 m σ H1) ∧ ∀ i m σ H, Wv i m σ H →
      (J.stop i H ∧ De.nx σ H) ∨ (J.go i H ∧ ∃ N : L2.St → Hp → Prop, (∀ σ' H', N σ' H' → ∃ m', m' < m ∧ Wv (i + 1) m' σ' H') ∧ ∀ x H', J.yld i H x H' → g x σ H' fun σ2 H2 => rdS T B W body { De with nx := N, ct := N, bk := De.nx } σ2 H2) := by
  refine ⟨fun i m σ H => ∃ ρ' G' env' μ', m = ds.length - i ∧ i ≤ ds.length ∧ Same G1 G' ∧ Pre ρ1 ρ' ∧ RD T B ρ' G' H σ env' μ' ∧ KS T B W De ρ' G' (forRun tg body (ds.drop i) env' μ'), ⟨ds.length, ρ1, G1, env, μ1, by omega, Nat.zero_le _, fun _ _ h => h, .refl _, R1, k⟩, ?_⟩
  rintro i m σ' H' ⟨ρ', G', env', μ', rfl, hi, s, p, R, k⟩
  by_cases hlt : i < ds.length
  · have hd : ds[i]? = some ds[i] := by simp [hlt]
    obtain ⟨jg, jy⟩ := wk.go i _ hd ρ' G' H' s p R.gh
    refine .inr ⟨jg, fun σ2 H2 => ∃ ρ2 G2 env2 μ2, Same G1 G2 ∧ Pre ρ1 ρ2 ∧ RD T B ρ2 G2 H2 σ2 env2 μ2 ∧ KS T B W De ρ2 G2 (forRun tg body (ds.drop (i + 1)) env2 μ2),
      fun σ2 H2 ⟨ρ2, G2, env2, μ2, h1, h2, h3, h4⟩ => ⟨ds.length - (i + 1), by omega, ρ2, G2, env2, μ2, rfl, hlt, h1, h2, h3, h4⟩, fun x H'' hy => ?_⟩
    have item : ∃ G2, Same G' G2 ∧ RD T B ρ' G2 H'' σ' env' μ' ∧ Rep T ρ' G2 x ds[i] := by
      rcases jy x H'' hy with ⟨e, r⟩ | ⟨q, ws, l', hn, e, ex, ed, r, z⟩
      · exact ⟨G', fun _ _ h => h, by rw [e]; exact R, r⟩
      · have gn := (R.fresh_ hn).1
        exact ⟨_, same_upd gn, by rw [e]; exact R.alloc hn, by rw [ex, ed]; exact rep_tup (.inl upd_same) z (r.mono (same_upd gn) (.refl _))⟩
    obtain ⟨G2, s2, R2, rx⟩ := item
    rw [List.drop_eq_getElem_cons hlt] at k
    unfold forRun at k
    split at k
    · exact k.elim
    · rename_i env1 he1
      refine gd.ok B ρ' G2 H'' σ' env' μ' x _ env1 _ R2 rx he1 fun σ2 R3 _ _ => ⟨ρ', G2, env1, μ', R3, ?_⟩
      split at k
      · rename_i env2 μ2 hb
        rw [hb]
        exact fun σ3 ρ3 G3 H3 s3 p3 R4 => ⟨ρ3, G3, env2, μ2, (s.trans s2).trans s3, p.trans p3, R4, k.weak (s2.trans s3) p3⟩
      · rename_i env2 μ2 hb
        rw [hb]
        exact fun σ3 ρ3 G3 H3 s3 p3 R4 => ⟨ρ3, G3, env2, μ2, (s.trans s2).trans s3, p.trans p3, R4, k.weak (s2.trans s3) p3⟩
      · rename_i env2 μ2 hb
        rw [hb]
        exact fun σ3 ρ3 G3 H3 s3 p3 R4 => k σ3 ρ3 G3 H3 (s2.trans s3) p3 R4
      · rename_i n1 n2 n3
        cases hb : body env1 μ' with
        | none => rw [hb] at k; exact k.elim
        | some q =>
          obtain ⟨o, e2, μ2⟩ := q
          rw [hb] at k
          cases o with
          | exc x => exact fun σ3 ρ3 G3 H3 c d s3 p3 R4 => k σ3 ρ3 G3 H3 c d (s2.trans s3) p3 R4
          | val f =>
            cases f with
            | nx => exact absurd hb (n1 _ _)
            | ct => exact absurd hb (n2 _ _)
            | brk => exact absurd hb (n3 _ _)
            | ret d => exact fun σ3 e3 ρ3 G3 H3 v s3 p3 R4 => k σ3 e3 ρ3 G3 H3 v (s2.trans s3) p3 R4
  · have e : i = ds.length := by omega
    subst e
    rw [List.drop_length] at k
    exact .inl ⟨wk.stop ρ' G' H' s p R.gh, k σ' ρ' G' H' (fun _ _ h => h) (.refl _) R⟩
theorem ds_for {tg iter : Expr} {body : List Stmt} {it : DEnv → Mu → Res (List D)} {g : TG} {t : DTg} {is : List Nat} {b : DSt} {pos : Pos} (hp : PassesOwn (model X.prog X.w) X.A X.env X.xe) (hc : X.calm = true) (hi : DI X B W tg iter it) (hg : PG X tg g) (gd : GD X.K X.mg g t is) (hb : DSs X B W body b)
    (hs : ∀ x, foldedSetIterable iter X.env x = pure x := by intro _; rfl) : DS X B W (.For tg iter body [] pos) (dFor it t b) :=
  ⟨psImp (ps_for hp hc hi.run hg hb.run hs) fun D σ H ⟨ρ, G, env, μ, R, k⟩ => ⟨ρ, G, env, μ, R, (KS.bind k).imp fun ρ1 G1 H1 μ1 ds s p R1 k1 J wk => rd_for gd R1 wk k1⟩⟩
end
end Dv

/-! DvI: what a def means; a def by its body; calls. -/
namespace Dv
open PySem PySem.Spec PyProof.Rows L2
abbrev Fn := List D → Mu → Res D
/-- a call's value: a list of nobody's, or what is frozen -/
def RepO (T : Tx) (ρ : List Addr) (G H H0 : Hp) (v : V) : D → Prop
  | .new l => ∃ (p : Addr) (vs : List V), v = .ref p ∧ H p = some (.lst vs) ∧ Reps T ρ G vs l ∧ szl l.length ∧ G p = none ∧ p ∉ ρ ∧ H0 p = none
  | d => Rep T ρ G v d
def KC (T : Tx) (ρ : List Addr) (G H : Hp) (Q : VK) (E : XK) : Res D → Prop
  | some (.val d, μ') => ∀ v ρ' G' H', Ext ρ G H ρ' G' H' → Same G' H' → StR T ρ' G' H' μ' → RepO T ρ' G' H' H v d → Q v H'
  | some (.exc x, μ') => ∀ cls dd ρ' G' H', Ext ρ G H ρ' G' H' → Same G' H' → StR T ρ' G' H' μ' → ExR T ρ' G' H' cls dd x → E cls dd H'
  | none => False
def spD (T : Tx) (n : Nat) (m : Fn) : Sp := fun vs H Q E => vs.length = n ∧ ∃ ρ G ds μ, Same G H ∧ StR T ρ G H μ ∧ Reps T ρ G vs ds ∧ KC T ρ G H Q E (m ds μ)
/-- a def's meaning by its body's -/
def endD : RS → Res D
  | some (.val (.ret d), _, μ) => some (.val d, μ)
  | some (.val .nx, _, μ) => some (.val .non, μ)
  | some (.exc x, _, μ) => some (.exc x, μ)
  | _ => none
def envD (n : Nat) (ds : List D) : DEnv := ds.map SV.v ++ List.replicate (n - ds.length) .no
def defD (n : Nat) (body : DSt) : Fn := fun ds μ => endD (body (envD n ds) μ)
section
variable {T : Tx} {ρ : List Addr} {G H : Hp} {μ : Mu}
theorem start_rd {N : List Str} {vs : List V} {ds : List D} (gh : Same G H) (st : StR T ρ G H μ) (r : Reps T ρ G vs ds) : RD T ⟨H, G, ρ, []⟩ ρ G H (L2.start N vs) (envD N.length ds) μ := by
  have hl := r.length
  have noown : ∀ (i : Nat) (l : List D), (envD N.length ds)[i]? ≠ some (.own l) := by
    intro i l h
    unfold envD at h
    by_cases hi : i < ds.length
    · rw [List.getElem?_append_left (by simpa using hi), List.getElem?_map] at h
      cases e : ds[i]? with
      | none => rw [e] at h; cases h
      | some d => rw [e] at h; cases h
    · rw [List.getElem?_append_right (by simpa using hi), List.getElem?_replicate] at h
      split at h <;> cases h
  refine ⟨gh, .refl _ _ _, by simp [envD, L2.start, hl], fun i s hs => ?_, fun i j l l' p h1 => absurd h1 (noown i l), st, fun q hq => absurd hq List.not_mem_nil, List.nodup_nil⟩
  unfold envD at hs
  by_cases hi : i < ds.length
  · rw [List.getElem?_append_left (by simpa using hi), List.getElem?_map] at hs
    cases e : ds[i]? with
    | none => rw [e] at hs; cases hs
    | some d =>
      rw [e] at hs
      cases hs
      obtain ⟨v, e1, e2⟩ := r.get e
      refine ⟨v, ?_, e2⟩
      unfold L2.start
      rw [List.getElem?_append_left (by rw [List.length_map]; omega), List.getElem?_map, e1]; rfl
  · rw [List.getElem?_append_right (by simpa using hi), List.getElem?_replicate] at hs
    split at hs
    · cases hs; trivial
    · cases hs
theorem repO_of {B : Bs} {σ : L2.St} {env : DEnv} {v : V} {d : D} (h : RepX T B ρ G H σ env v d) (n : nobor d = true) : RepO T ρ G H B.H0 v d := by
  cases d with
  | new l =>
    obtain ⟨p, vs, e1, e2, e3, e4, e5, e6, e7, _⟩ := h
    exact ⟨p, vs, e1, e2, e3, e4, e5, e6, e7⟩
  | bor l => cases n
  | _ => exact h
end
section
variable {P : Program} {w : World} {K : PySem.W.Frag} {mg : Str → Option Value} {base : Heap} {x qual : Str} {params : Arguments} {body : List Stmt} {scope : Scope} {dvs : List V} {kws : List (Str × V)} {f : Addr} {fd : FuncData}
/-- nothing borrowed is handed back -/
def cleanD (m : Fn) : Fn := fun ds μ => match m ds μ with
  | some (.val d, μ') => if nobor d then some (.val d, μ') else none
  | r => r
theorem def_ok {N ps : List Str} {k : Nat} {m : DSt} (F : FunD K x qual params body scope dvs kws f fd) (S : FnScope N ps scope)
    (hbody : ∀ (cdv : Value) (A : Around) (outer : List Env) (s : Shared) (H : Hp) (E : XK) (B : Bs), Room k (A.deeper (envOfC qual scope s.heap.objs.size f cdv)) → DSs (cxOf (L2.CX P w) P w K mg base N qual scope f cdv A outer s H E) B (fun cls d _ H => E cls d H) body m) :
    FnOk P w K mg base (L2.CX P w) (k + 1) f fd ps (spD ⟨K, mg⟩ ps.length (cleanD (defD N.length m))) := by
  refine F.ok S (fun vs H Q E h => h.1) fun cdv A outer s H vs Q E hr h => ?_
  obtain ⟨hl, ρ, G, ds, μ, gh, st, rs, k⟩ := h
  refine ⟨_, (hbody cdv A outer s H E ⟨H, G, ρ, []⟩ hr).run, ρ, G, envD N.length ds, μ, start_rd gh st rs, ?_⟩
  unfold cleanD defD at k
  cases e : m (envD N.length ds) μ with
  | none => rw [e] at k; exact k.elim
  | some q =>
    obtain ⟨o, env', μ'⟩ := q
    rw [e] at k
    cases o with
    | exc x => exact fun σ' ρ' G' H' cls dd s p R er => k cls dd ρ' G' H' R.ext R.gh R.st er
    | val fl =>
      cases fl with
      | nx => exact fun σ' ρ' G' H' s p R => k .non ρ' G' H' R.ext R.gh R.st (show Rep _ _ _ _ _ from rep_non)
      | ret d =>
        have k : KC ⟨K, mg⟩ ρ G H Q E (if nobor d then some (.val d, μ') else none) := k
        split at k
        · rename_i hb
          exact fun σ' env2 ρ' G' H' v s p R hv => k v ρ' G' H' R.ext R.gh R.st (repO_of hv hb)
        · exact k.elim
      | brk => exact k.elim
      | ct => exact k.elim
end
/-! ### calls -/
section
variable {X : Cx} {B : Bs} {W : WX}
/-- behind a call all is as it was but the store -/
theorem RD.after {T : Tx} {ρ ρ' : List Addr} {G G' H H' : Hp} {σ : L2.St} {env : DEnv} {μ μ' : Mu} (R : RD T B ρ G H σ env μ) (e : Ext ρ G H ρ' G' H') (gh : Same G' H') (st : StR T ρ' G' H' μ') : RD T B ρ' G' H' σ env μ' := by
  have keep : ∀ {p : Addr} {o : HO}, H p = some o → G p = none → p ∉ ρ → H' p = some o ∧ G' p = none ∧ p ∉ ρ' := fun {p o} h g n => by
    refine ⟨e.old h n, ?_, fun m => ?_⟩
    · cases q : G' p with
      | none => rfl
      | some o' => have := e.fg p o' q g; rw [h] at this; cases this
    · have := e.fr p m n; rw [h] at this; cases this
  refine ⟨gh, R.ext.trans e, R.len, fun i s hs => ?_, R.own, st, fun q hq => ?_, R.xn⟩
  · have h := R.slot i s hs
    cases s with
    | no => trivial
    | v d =>
      obtain ⟨v, e1, e2⟩ := h
      exact ⟨v, e1, e2.mono e.gg e.pre⟩
    | own l =>
      obtain ⟨p, vs, e1, e2, e3, e4, e5, e6, e7⟩ := h
      obtain ⟨k1, k2, k3⟩ := keep e2 e5 e6
      exact ⟨p, vs, e1, k1, e3.mono e.gg e.pre, e4, k2, k3, e7⟩
  · obtain ⟨e1, e2, e3, e4⟩ := R.xo q hq
    obtain ⟨k1, k2, k3⟩ := keep e1 e2 e3
    exact ⟨k1, k2, k3, e4⟩
theorem repX_after {T : Tx} {ρ ρ' : List Addr} {G G' H H' : Hp} {σ : L2.St} {env : DEnv} {μ : Mu} (R : RD T B ρ G H σ env μ) {v : V} {d : D} (h : RepO T ρ' G' H' H v d) : RepX T B ρ' G' H' σ env v d := by
  cases d with
  | new l =>
    obtain ⟨p, vs, e1, e2, e3, e4, eg, e5, e6⟩ := h
    refine ⟨p, vs, e1, e2, e3, e4, eg, e5, R.ext.none e6, fun i l' h1 h2 => ?_, fun q hq e => ?_⟩
    · obtain ⟨p', us, q1, q2, _⟩ := R.slot i _ h1
      rw [h2] at q1; cases q1
      rw [e6] at q2; cases q2
    · have z := (R.xo q hq).1
      rw [e, e6] at z; cases z
  | bor l => exact (show False from by unfold RepO Rep at h; exact h).elim
  | _ => exact h
/-- a call with values -/
theorem kc_of {T : Tx} {m : Fn} {ρ : List Addr} {G H : Hp} {σ : L2.St} {env : DEnv} {μ : Mu} {Q : VK} {ds : List D} (R : RD T B ρ G H σ env μ) (k : KE T B σ env W (PX T B σ env Q) ρ G (m ds μ)) : KC T ρ G H Q (fun cls d H => W cls d σ H) (m ds μ) := by
  cases e : m ds μ with
  | none => rw [e] at k; exact k.elim
  | some q =>
    obtain ⟨o, μ'⟩ := q
    rw [e] at k
    cases o with
    | val d => exact fun v ρ' G' H' ex gh st ro => k ρ' G' H' ex.gg ex.pre (R.after ex gh st) v (repX_after R ro)
    | exc x => exact fun cls dd ρ' G' H' ex gh st er => k ρ' G' H' cls dd ex.gg ex.pre (R.after ex gh st) er
def fCall (n : Nat) (m : Fn) : FA := fun ds μ => if ds.length = n ∧ ds.all nobor = true then m ds μ else none
theorem sp_call {T : Tx} {n : Nat} {m : Fn} {ρ : List Addr} {G H : Hp} {σ : L2.St} {env : DEnv} {μ : Mu} {Q : VK} {ds : List D} {vs : List V} (R : RD T B ρ G H σ env μ) (hv : HReps T ρ G σ env vs ds) (k : KE T B σ env W (PX T B σ env Q) ρ G (fCall n m ds μ)) :
    spD T n m vs H Q (fun cls d H => W cls d σ H) := by
  unfold fCall at k
  split at k
  · rename_i h
    have r := hv.reps h.2
    exact ⟨by rw [r.length, h.1], ρ, G, ds, μ, R.gh, R.st, r, kc_of R k⟩
  · exact k.elim
theorem de_call {k n : Nat} {f : Addr} {fd : FuncData} {ps : List Str} {m : Fn} {x : Str} {p pos : Pos} {e : Expr} {es : List Expr} {na : DEnv → Mu → Res (List D)} {ds : List Value} {dvs : List V} (F : FnOk X.prog X.w X.K X.mg X.base (L2.CX X.prog X.w) k f fd ps (spD (tx X) n m)) (hr : Room k X.A) (tk : Takes X W) (hg : Gl X x) (hm : X.mg x = some (.ref f)) (hk : PySem.W.keepIn X.K (.ref f) = true)
    (hb : Binds X.K fd ps []) (ha : DA X B W (e :: es) na) (hdb : (x == ("__debug__" : Str)) = false := by decide) (he : starEach (e :: es) X.env = (false, eval e X.env) :: starEach es X.env := by rfl) (hpl : (backTo pos (starEach es X.env)).any (·.1) = false := by rfl) :
    DE X B W (.Call (.Name x p) (e :: es) [] pos) (dCall (fCall n m) na) := by
  refine ⟨peImp (pe_callSD (E := fun σ cls d H => W cls d σ H) F hr hg hm hk hb .nil (fun σ => passAt tk σ) ha.run hdb he hpl) fun σ H Q ⟨ρ, G, env, μ, R, k⟩ => ?_⟩
  refine ⟨ρ, G, env, μ, R, (KE.bind (f := fCall n m) k).imp fun ρ1 G1 H1 μ1 ds s p R1 k1 vs hvs => ?_⟩
  show spD (tx X) n m (vs ++ []) H1 Q _
  rw [List.append_nil]
  exact sp_call R1 hvs k1
/-! ### keywords -/
structure DK (X : Cx) (B : Bs) (W : WX) (kws : List Keyword) (m : DEnv → Mu → Res (List D)) : Prop where
  run : PK X kws (rdA (tx X) B W m)
theorem pkImp {kws : List Keyword} {t t' : TA} (h : PK X kws t) (i : ∀ σ H Q, t' σ H Q → t σ H Q) : PK X kws t' := ⟨fun pos pins s σ H Q I q => h.run pos pins s σ H Q I (i σ H Q q)⟩
theorem dk_nil : DK X B W [] dNil := ⟨pkImp pk_nil fun σ H Q ⟨ρ, G, env, μ, R, k⟩ => k ρ G H (fun _ _ h => h) (.refl _) R [] .nil⟩
theorem dk_cons {nm : Option Str} {e : Expr} {kpos : Pos} {kws : List Keyword} {m : DEx} {n : DEnv → Mu → Res (List D)} (h : DE X B W e m) (g : DK X B W kws n) : DK X B W (⟨nm, e, kpos⟩ :: kws) (dCons m n) := by
  refine ⟨pkImp (pk_cons h.run g.run) fun σ H Q ⟨ρ, G, env, μ, R, k⟩ => ?_⟩
  refine rd_then (f := fun d μ => bindR (n env μ) fun ds μ => ret (hold d :: ds) μ) R k fun ρ1 G1 H1 μ1 x d s p R1 hx k1 => ?_
  refine ⟨ρ1, G1, env, μ1, R1, (KE.bind (f := fun ds μ => ret (hold d :: ds) μ) k1).imp fun ρ2 G2 H2 μ2 ds s2 p2 R2 k2 vs hvs => ?_⟩
  exact k2 ρ2 G2 H2 (fun _ _ h => h) (.refl _) R2 _ (.cons (hx.mono s2 p2) hvs)
theorem HReps.append {T : Tx} {ρ : List Addr} {G : Hp} {σ : L2.St} {env : DEnv} {vs us : List V} {ds es : List D} (h : HReps T ρ G σ env vs ds) (g : HReps T ρ G σ env us es) : HReps T ρ G σ env (vs ++ us) (ds ++ es) := by
  induction h with
  | nil => exact g
  | cons a _ ih => exact .cons a ih
end
end Dv

/-! DvJ: stores side by side, comprehensions stored, the drawer, calls of oneself. -/
namespace Dv
open PySem PySem.Spec PyProof.Rows L2
section
variable {X : Cx} {B : Bs} {W : WX}
/-! ### a, b = x, y -/
/-! ### y = [.. for ..] on one line -/
theorem ds_setLc {i : Nat} {y : Str} {py : Pos} {elt tg iter : Expr} {ifs : List Expr} {scope : Scope} {own : List (Str × Nat)} {pos spos : Pos} {it : DEnv → Mu → Res (List D)} {g : TG} {t : DTg} {is : List Nat} {tt : DEnv → Mu → Res Bool} {el : DEx}
    (hc : X.calm = true) (hN : X.N.Nodup) (hy : X.N[i]? = some y) (hyl : List.lookup y X.env.scope.names = some NameKind.local) (hsw : swapsWith (elt.ListComp [⟨tg, iter, ifs, 0⟩] scope pos) (some (Expr.Name y py)) spos.line X.env = pure true)
    (hi : DI X B W tg iter it) (ok : BlkOk X.N X.env.scope scope own) (gd : GD X.K X.mg g t is) (his : ∀ i ∈ is, i ∈ own.map (·.2))
    (hg : ∀ (s : Shared) (H : Hp) (C : Addr) (cl : List (Str × Addr)) (fp : List Addr), PG (X.blk s H scope (compEnvC scope cl C X.env) fp) tg g)
    (ht : ∀ (s : Shared) (H : Hp) (C : Addr) (cl : List (Str × Addr)) (fp : List Addr) (B : Bs), DTs (X.blk s H scope (compEnvC scope cl C X.env) fp) B W0 ifs tt)
    (he : ∀ (s : Shared) (H : Hp) (C : Addr) (cl : List (Str × Addr)) (fp : List Addr) (B : Bs), DE (X.blk s H scope (compEnvC scope cl C X.env) fp) B W0 elt el) (hs : ∀ x, foldedSetIterable iter X.env x = pure x := by intro _; rfl) :
    DS X B W (.Assign [.Name y py] (.ListComp elt [⟨tg, iter, ifs, 0⟩] scope pos) spos) (dAsg (dLc it (own.map (·.2)) t tt el) (tName i)) :=
  ds_asgG (ps_setLc (te := exE (tx X) el) (tt := exT (tx X) tt) hc hN hy hyl hsw hi.run ok hg (fun s H C cl fp => pt_ex (ht s H C cl fp)) (fun s H C cl fp => pe_ex (he s H C cl fp)) hs) (fun _ _ _ h => rd_tLc gd his h) gd_name
/-! ### the drawer -/
theorem reps_ints {T : Tx} {ρ : List Addr} {G : Hp} : ∀ ns : List Int, Reps T ρ G (ns.map V.int) (ns.map D.int)
  | [] => .nil
  | n :: ns => .cons rep_int (reps_ints ns)
def srcGet (s : Src) (i : Int) : Option D :=
  if i = 0 then (if szl s.cells.length then some (.lst (s.cells.map D.int)) else none)
  else if i = 1 then some (.int s.at_) else if i = 2 then some (.int s.big) else if i = 3 then some (.int s.seed) else if i = 4 then some (.int s.cnt) else none
def srcSet (s : Src) (i v : Int) : Option Src :=
  if i = 1 then some { s with at_ := v } else if i = 2 then some { s with big := v } else if i = 3 then some { s with seed := v } else if i = 4 then some { s with cnt := v } else none
def fIxS : F2
  | .obj k, .int i, μ => (match μ[k]? with
    | some (.src s) => (match srcGet s i with
      | some d => ret d μ
      | none => none)
    | _ => none)
  | a, b, μ => fIx a b μ
theorem obj_inv {T : Tx} {ρ : List Addr} {G : Hp} {σ : L2.St} {env : DEnv} {x : V} {k : Nat} (h : HeldR T ρ G σ env x (.obj k)) : ∃ a, x = .ref a ∧ ρ[k]? = some a := by
  have h : Rep T ρ G x (.obj k) := h
  unfold Rep at h; exact h
theorem opd_ixS : OpD (tx X) (rIx X.K) fIxS := by
  intro B W σ env ρ G H μ x y d d' Q R hx hy k
  unfold fIxS at k
  split at k
  · rename_i kk i
    split at k
    · rename_i s hs
      split at k
      · rename_i d hd
        obtain ⟨a, rfl, ha⟩ := obj_inv hx
        obtain ⟨a', ea, r⟩ := R.st.at_ kk _ hs
        rw [ha] at ea; cases ea
        obtain ⟨l, e1, e2⟩ := r
        have e3 := int_inv hy
        unfold srcGet at hd
        split at hd
        · rename_i h0
          split at hd
          · rename_i hz
            cases hd
            exact .inl ⟨a, _, i, .ref l, rfl, e3, .of e1, by subst h0; rfl, k.here R (.ofR (rep_lst e2 (by simpa using hz) (reps_ints _)))⟩
          · cases hd
        · split at hd
          · rename_i h0; cases hd
            exact .inl ⟨a, _, i, .int s.at_, rfl, e3, .of e1, by subst h0; rfl, k.here R (.ofR rep_int)⟩
          · split at hd
            · rename_i h0; cases hd
              exact .inl ⟨a, _, i, .int s.big, rfl, e3, .of e1, by subst h0; rfl, k.here R (.ofR rep_int)⟩
            · split at hd
              · rename_i h0; cases hd
                exact .inl ⟨a, _, i, .int s.seed, rfl, e3, .of e1, by subst h0; rfl, k.here R (.ofR rep_int)⟩
              · split at hd
                · rename_i h0; cases hd
                  exact .inl ⟨a, _, i, .int s.cnt, rfl, e3, .of e1, by subst h0; rfl, k.here R (.ofR rep_int)⟩
                · cases hd
      · exact k.elim
    · exact k.elim
  · exact opd_ix B W σ env ρ G H μ x y _ _ Q R hx hy k
theorem RD.setSrc {T : Tx} {ρ : List Addr} {G H : Hp} {σ : L2.St} {env : DEnv} {μ : Mu} {k : Nat} {a l : Addr} {s s' : Src} (R : RD T B ρ G H σ env μ) (ha : ρ[k]? = some a) (hs : μ[k]? = some (.src s)) (e1 : H a = some (.lst (srcV l s))) (e2 : G l = some (.lst (s.cells.map V.int))) (hc : s'.cells = s.cells) :
    RD T B ρ G (upd H a (.lst (srcV l s'))) σ env (μ.set k (.src s')) := by
  have am : a ∈ ρ := List.mem_of_getElem? ha
  have ga := R.st.off a am
  have hk : k < μ.length := (List.getElem?_eq_some_iff.mp hs).1
  refine ⟨fun b u e => ?_, ⟨R.ext.gg, R.ext.pre, fun b u e => ?_, R.ext.fg, R.ext.fr⟩, R.len, fun i t ht => ?_, R.own, ⟨by rw [List.length_set]; exact R.st.len, R.st.nd, R.st.off, fun j m hm => ?_⟩, fun q hq => ?_, R.xn⟩
  · by_cases q : b = a
    · subst q; rw [ga] at e; cases e
    · rw [upd_ne q]; exact R.gh b u e
  · by_cases q : b = a
    · subst q
      refine ⟨_, upd_same, fun n => ?_⟩
      have := R.ext.fr b am n
      rw [this] at e; cases e
    · rw [upd_ne q]; exact R.ext.keep b u e
  · have h := R.slot i t ht
    cases t with
    | no => trivial
    | v d => exact h
    | own l' =>
      obtain ⟨p, vs, q1, q2, q3, q4, q5, q6, q7⟩ := h
      have z : p ≠ a := fun z => q6 (z ▸ am)
      exact ⟨p, vs, q1, by rw [upd_ne z]; exact q2, q3, q4, q5, q6, q7⟩
  · by_cases q : k = j
    · subst q
      rw [List.getElem?_set_self hk] at hm
      cases hm
      exact ⟨a, ha, l, upd_same, by rw [hc]; exact e2⟩
    · rw [List.getElem?_set_ne q] at hm
      obtain ⟨a', ea, r⟩ := R.st.at_ j m hm
      refine ⟨a', ea, ?_⟩
      have z : a' ≠ a := fun z => by
        subst z
        have hj : j < ρ.length := (List.getElem?_eq_some_iff.mp ea).1
        have hkr : k < ρ.length := (List.getElem?_eq_some_iff.mp ha).1
        have := (List.getElem?_inj hkr R.st.nd).mp (ha.trans ea.symm)
        exact q this
      exact r.to (fun _ _ e => e) fun o e1 => by rw [upd_ne z]; exact e1
  · obtain ⟨q1, q2, q3, q4⟩ := R.xo q hq
    have z : q.1 ≠ a := fun z => q3 (z ▸ am)
    exact ⟨by rw [upd_ne z]; exact q1, q2, q3, q4⟩
def fSetS (env : DEnv) : D → D → D → Mu → RS
  | .int v, .obj k, .int i, μ => (match μ[k]? with
    | some (.src s) => (match srcSet s i v with
      | some s' => some (.val .nx, env, μ.set k (.src s'))
      | none => none)
    | _ => none)
  | _, _, _, _ => none
def dSetS (me mo mi : DEx) : DSt := fun env μ => bindS env (me env μ) fun d μ => bindS env (mo env μ) fun o μ => bindS env (mi env μ) fun i μ => fSetS env (hold d) (hold o) (hold i) μ
/-- one evaluation, then a statement's rest -/
theorem rd_thenS {T : Tx} {De : Ends} {σ : L2.St} {env : DEnv} {ρ : List Addr} {G H : Hp} {μ : Mu} {m : DEx} {f : D → Mu → RS} {Q : VK}
    (R : RD T B ρ G H σ env μ) (k : KS T B W De ρ G (bindS env (m env μ) f))
    (h : ∀ ρ1 G1 H1 μ1 x d, Same G G1 → Pre ρ ρ1 → RD T B ρ1 G1 H1 σ env μ1 → HeldR T ρ1 G1 σ env x (hold d) → KS T B W De ρ1 G1 (f d μ1) → Q x H1) : rdE T B W m σ H Q := by
  refine ⟨ρ, G, env, μ, R, (KS.bind k).imp fun ρ1 G1 H1 μ1 d s p R1 k1 x hx => ?_⟩
  obtain ⟨G2, s2, R2, h2⟩ := hx.hold R1
  exact h ρ1 G2 H1 μ1 x d (s.trans s2) p R2 h2 (k1.weak s2 (.refl _))
theorem srcV_set {l : Addr} {s s' : Src} {i v : Int} (h : srcSet s i v = some s') : s'.cells = s.cells ∧ ∃ j, ixN (srcV l s).length i = some j ∧ (srcV l s).set j (.int v) = srcV l s' := by
  unfold srcSet at h
  split at h
  · rename_i h0; cases h; subst h0; exact ⟨rfl, 1, rfl, rfl⟩
  · split at h
    · rename_i h0; cases h; subst h0; exact ⟨rfl, 2, rfl, rfl⟩
    · split at h
      · rename_i h0; cases h; subst h0; exact ⟨rfl, 3, rfl, rfl⟩
      · split at h
        · rename_i h0; cases h; subst h0; exact ⟨rfl, 4, rfl, rfl⟩
        · cases h
theorem ds_setS {o i e : Expr} {mo mi me : DEx} {tpos pos : Pos} (he : DE X B W e me) (ho : DE X B W o mo) (hi : DE X B W i mi)
    (h1 : ∀ v : Value, assign (o.Subscript i tpos) X.env v = (do let ov ← holding [v] (eval o X.env); let iv ← holding [v, ov] (eval i X.env); standAt tpos; holding [v, ov, iv] (setItem ov iv v); release [v, ov, iv] []) := by intro _; rfl)
    (h2 : swapsWithSole [o.Subscript i tpos] e pos.line X.env = pure false := by rfl) (h3 : swappedStores [o.Subscript i tpos] e X.env = pure none := by rfl) (h4 : (assignEach [o.Subscript i tpos] X.env).map (·.2) = [assign (o.Subscript i tpos) X.env] := by rfl) :
    DS X B W (.Assign [.Subscript o i tpos] e pos) (dSetS me mo mi) := by
  refine ⟨psImp (ps_asg he.run (pg_sub ho.run hi.run set_list h1) h2 h3 h4) fun De σ H ⟨ρ, G, env, μ, R, k⟩ => ?_⟩
  refine rd_thenS (f := fun d μ => bindS env (mo env μ) fun o μ => bindS env (mi env μ) fun i μ => fSetS env (hold d) (hold o) (hold i) μ) R k fun ρ1 G1 H1 μ1 x d s p R1 hx k1 => ?_
  refine rd_thenS (f := fun o μ => bindS env (mi env μ) fun i μ => fSetS env (hold d) (hold o) (hold i) μ) R1 k1 fun ρ2 G2 H2 μ2 y d2 s2 p2 R2 hy k2 => ?_
  refine rd_thenS (f := fun i μ => fSetS env (hold d) (hold d2) (hold i) μ) R2 k2 fun ρ3 G3 H3 μ3 z d3 s3 p3 R3 hz k3 => ?_
  have hx := (hx.mono s2 p2).mono s3 p3
  have hy := hy.mono s3 p3
  generalize hold d = d at *
  generalize hold d2 = d2 at *
  generalize hold d3 = d3 at *
  unfold fSetS at k3
  split at k3
  · split at k3
    · rename_i s hs
      split at k3
      · rename_i s' hset
        obtain ⟨a, rfl, ha⟩ := obj_inv hy
        obtain ⟨a', ea, r⟩ := R3.st.at_ _ _ hs
        rw [ha] at ea; cases ea
        obtain ⟨l, e1, e2⟩ := r
        obtain ⟨hc, j, q1, q2⟩ := srcV_set (l := l) hset
        refine ⟨a, _, _, j, rfl, int_inv hz, e1, q1, ?_⟩
        rw [int_inv hx, q2]
        exact k3 σ ρ3 G3 _ (fun _ _ h => h) (.refl _) (R3.setSrc ha hs e1 e2 hc)
      · exact k3.elim
    · exact k3.elim
  · exact k3.elim
end
/-! ### a drawer is made -/
def adopt (m : Fn) : Fn := fun ds μ => match m ds μ with
  | some (.val (.new [.lst cs, .int a, .int b, .int c, .int d]), μ') => (match asInts cs with
    | some ns => some (.val (.obj μ'.length), μ' ++ [.src ⟨ns, a, b, c, d⟩])
    | none => none)
  | _ => none
section
variable {T : Tx} {ρ : List Addr} {G H : Hp} {μ : Mu}
theorem sp_adopt {n : Nat} {m : Fn} {vs : List V} {Q : VK} {E : XK} (h : spD T n (adopt m) vs H Q E) : spD T n m vs H Q E := by
  obtain ⟨hl, ρ, G, ds, μ, gh, st, rs, k⟩ := h
  refine ⟨hl, ρ, G, ds, μ, gh, st, rs, ?_⟩
  unfold adopt at k
  split at k
  · rename_i cs a b c d μ' hm
    rw [hm]
    split at k
    · rename_i ns hns
      intro v ρ' G' H' ex gh' st' ro
      obtain ⟨p, us, rfl, hp, r, z, gp, pn, h0⟩ := ro
      obtain ⟨v0, r0, rfl, q0, r⟩ := r.inv
      obtain ⟨v1, r1, rfl, q1, r⟩ := r.inv
      obtain ⟨v2, r2, rfl, q2, r⟩ := r.inv
      obtain ⟨v3, r3, rfl, q3, r⟩ := r.inv
      obtain ⟨v4, r4, rfl, q4, r⟩ := r.inv
      have r5 := r.inv0
      subst r5
      unfold Rep at q0 q1 q2 q3 q4
      obtain ⟨l, ws, rfl, gl, zl, rl⟩ := q0
      subst q1 q2 q3 q4
      have ew := asInts_inv hns rl
      subst ew
      have pre : Pre ρ' (ρ' ++ [p]) := fun k x e => by rw [List.getElem?_append_left (List.getElem?_eq_some_iff.mp e).1]; exact e
      refine k (.ref p) (ρ' ++ [p]) G' H' ⟨ex.gg, ex.pre.trans pre, ex.keep, ex.fg, fun x hx n => ?_⟩ gh' ⟨by simp [st'.len], ?_, fun x hx => ?_, fun j mm hj => ?_⟩ ?_
      · rcases List.mem_append.mp hx with hx | hx
        · exact ex.fr x hx n
        · rw [List.mem_singleton.mp hx]; exact h0
      · rw [List.nodup_append]
        exact ⟨st'.nd, by simp, fun x hx y hy e => pn (by rw [List.mem_singleton.mp hy] at e; rw [← e]; exact hx)⟩
      · rcases List.mem_append.mp hx with hx | hx
        · exact st'.off x hx
        · rw [List.mem_singleton.mp hx]; exact gp
      · by_cases hlt : j < μ'.length
        · rw [List.getElem?_append_left hlt] at hj
          obtain ⟨x, e1, e2⟩ := st'.at_ j mm hj
          exact ⟨x, pre _ _ e1, e2.pre pre⟩
        · have ej : j = μ'.length := by
            have := (List.getElem?_eq_some_iff.mp hj).1
            simp at this; omega
          subst ej
          rw [List.getElem?_append_right (Nat.le_refl _)] at hj
          simp at hj
          subst hj
          exact ⟨p, by rw [← st'.len]; simp, l, hp, gl⟩
      · show Rep _ _ _ _ _
        unfold Rep
        exact ⟨p, rfl, by rw [← st'.len]; simp⟩
    · exact k.elim
  · exact k.elim
end
section
variable {P : Program} {w : World} {K : PySem.W.Frag} {mg : Str → Option Value} {base : Heap} {CX : CXT} {k : Nat} {f : Addr} {fd : FuncData} {ps : List Str} {sp sp' : Sp}
theorem ok_weak (F : FnOk P w K mg base CX k f fd ps sp) (i : ∀ vs H Q E, sp' vs H Q E → sp vs H Q E) : FnOk P w K mg base CX k f fd ps sp' :=
  ⟨fun vs H Q E h => F.len vs H Q E (i _ _ _ _ h), fun A outer s H args us vs Q E a b c d h => F.run A outer s H args us vs Q E a b c d (i _ _ _ _ h)⟩
theorem ok_adopt {n : Nat} {m : Fn} (F : FnOk P w K mg base CX k f fd ps (spD ⟨K, mg⟩ n m)) : FnOk P w K mg base CX k f fd ps (spD ⟨K, mg⟩ n (adopt m)) := ok_weak F fun _ _ _ _ h => sp_adopt h
/-- a def of which nothing is said -/
def noFn : Fn := fun _ _ => none
theorem ok_none (k : Nat) (f : Addr) (fd : FuncData) (ps : List Str) : FnOk P w K mg base CX k f fd ps (spD ⟨K, mg⟩ ps.length noFn) :=
  ⟨fun vs H Q E h => h.1, fun A outer s H args us vs Q E a b c d ⟨_, ρ, G, ds, μ, _, _, _, k⟩ => k.elim⟩
end
end Dv

/-! DvK: defs by name, calls by name; more operators. -/
namespace Dv
open PySem PySem.Spec PyProof.Rows L2
section
variable {X : Cx} {B : Bs} {W : WX}
def fDiv : F2
  | .int i, .int j, μ => if 0 < j ∧ j < 1073741824 then ret (.int (i / j)) μ else none
  | _, _, _ => none
theorem opd_div : OpD (tx X) (rI CDiv fun i j => .int (i / j)) fDiv := by
  intro B W σ env ρ G H μ x y d d' Q R hx hy k
  unfold fDiv at k
  split at k
  · split at k
    · rename_i h0
      exact ⟨_, _, int_inv hx, int_inv hy, h0, k.here R (.ofR rep_int)⟩
    · exact k.elim
  · exact k.elim
def fPow : F2
  | .int i, .int j, μ => if 0 ≤ j ∧ j ≤ 1000000 ∧ i.natAbs < 18446744073709551616 then ret (.int (i ^ j.toNat)) μ else none
  | _, _, _ => none
theorem opd_pow : OpD (tx X) (rI CPow fun i j => .int (i ^ j.toNat)) fPow := by
  intro B W σ env ρ G H μ x y d d' Q R hx hy k
  unfold fPow at k
  split at k
  · split at k
    · rename_i h0
      exact ⟨_, _, int_inv hx, int_inv hy, ⟨h0.1, h0.2.1, by have := h0.2.2; simpa using this⟩, k.here R (.ofR rep_int)⟩
    · exact k.elim
  · exact k.elim
theorem unitsOk5 {k : Nat} {A : Around} (h : Room k A) : A.units + 65 < cLine := by have := h.un; omega
theorem unitsOk {k : Nat} {A : Around} (h : Room k A) : A.units + 64 < cLine := by have := h.un; omega
end
section
variable {P : Program} {w : World} {K : PySem.W.Frag} {mg : Str → Option Value} {base : Heap}
theorem takes_cx {N : List Str} {qual : Str} {scope : Scope} {f : Addr} {cdv : Value} {A : Around} {outer : List Env} {s : Shared} {H : Hp} {E : XK} :
    Takes (cxOf (L2.CX P w) P w K mg base N qual scope f cdv A outer s H E) (fun cls d _ H => E cls d H) := takes_of rfl rfl rfl rfl
/-- a def, by its name: what it does, how it takes its arguments -/
structure Callee (P : Program) (w : World) (K : PySem.W.Frag) (mg : Str → Option Value) (base : Heap) (x : Str) (ps : List Str) (kb : List (Nat × List Str)) (k : Nat) (m : Fn) : Prop where
  ex : ∃ (f : Addr) (fd : FuncData), mg x = some (.ref f) ∧ PySem.W.keepIn K (.ref f) = true ∧ Binds K fd ps [] ∧ (∀ q ∈ kb, KBn K fd ps q.1 q.2 (fun us ws => us ++ ws) (fun us ws => us ++ ws)) ∧ FnOk P w K mg base (L2.CX P w) k f fd ps (spD ⟨K, mg⟩ ps.length m)
theorem vals_append {vs : List V} {us : List Value} {zs : List V} {ws : List Value} (h : Vals vs us) (g : Vals zs ws) : Vals (vs ++ zs) (us ++ ws) := by
  induction h with
  | nil => exact g
  | cons a _ ih => exact .cons a ih
theorem kbn_of {x qual : Str} {params : Arguments} {body : List Stmt} {scope : Scope} {f : Addr} {fd : FuncData} {ps : List Str} {n : Nat} {ks : List Str} (F : FunD K x qual params body scope [] [] f fd)
    (h : ∀ (kV doc pm : Value) (an : Option Addr) (cdv ct : Value) (us ws : List Value), us.length = n → ws.length = ks.length → bindArgs (PySem.W.fnOf x qual params body scope .none kV doc pm an cdv ct) ⟨us, ks.zip ws⟩ = pure (ps.zip (us ++ ws))) :
    KBn K fd ps n ks (fun us ws => us ++ ws) (fun us ws => us ++ ws) := by
  obtain ⟨oc, od, dV, kV, doc, pm, an, cdv, ct, osl, rfl, _, _, hd, _⟩ := F.ex
  rcases hd with ⟨_, rfl⟩ | ⟨h0, _⟩
  · exact ⟨fun s us ws _ h1 h2 => BindsTo.of_eq (h kV doc pm an cdv ct us ws h1 h2), vals_append⟩
  · exact absurd rfl h0
theorem callee {x qual y : Str} {params : Arguments} {body : List Stmt} {scope : Scope} {f : Addr} {fd : FuncData} {N ps : List Str} {kb : List (Nat × List Str)} {k : Nat} {m : DSt} (hm : mg y = some (.ref f)) (F : FunD K x qual params body scope [] [] f fd) (S : FnScope N ps scope)
    (hb : ∀ (kV doc pm : Value) (an : Option Addr) (cdv ct : Value) (us : List Value), us.length = ps.length → bindArgs (PySem.W.fnOf x qual params body scope .none kV doc pm an cdv ct) ⟨us, []⟩ = pure (ps.zip us))
    (hkb : ∀ q ∈ kb, ∀ (kV doc pm : Value) (an : Option Addr) (cdv ct : Value) (us ws : List Value), us.length = q.1 → ws.length = q.2.length → bindArgs (PySem.W.fnOf x qual params body scope .none kV doc pm an cdv ct) ⟨us, q.2.zip ws⟩ = pure (ps.zip (us ++ ws)))
    (hbody : ∀ (cdv : Value) (A : Around) (outer : List Env) (s : Shared) (H : Hp) (E : XK) (B : Bs), Room k (A.deeper (envOfC qual scope s.heap.objs.size f cdv)) → DSs (cxOf (L2.CX P w) P w K mg base N qual scope f cdv A outer s H E) B (fun cls d _ H => E cls d H) body m) :
    Callee P w K mg base y ps kb (k + 1) (cleanD (defD N.length m)) :=
  ⟨f, fd, hm, F.kp, F.bindsN hb, fun q hq => kbn_of F (hkb q hq), def_ok F S hbody⟩
theorem Callee.adopt {y : Str} {ps : List Str} {kb : List (Nat × List Str)} {k : Nat} {m : Fn} (C : Callee P w K mg base y ps kb k m) : Callee P w K mg base y ps kb k (adopt m) := by
  obtain ⟨f, fd, h1, h2, h3, h4, h5⟩ := C.ex
  exact ⟨f, fd, h1, h2, h3, h4, ok_adopt h5⟩
/-- nothing is said -/
theorem callee0 {x qual y : Str} {params : Arguments} {body : List Stmt} {scope : Scope} {f : Addr} {fd : FuncData} {ps : List Str} {kb : List (Nat × List Str)} {k : Nat} (hm : mg y = some (.ref f)) (F : FunD K x qual params body scope [] [] f fd)
    (hb : ∀ (kV doc pm : Value) (an : Option Addr) (cdv ct : Value) (us : List Value), us.length = ps.length → bindArgs (PySem.W.fnOf x qual params body scope .none kV doc pm an cdv ct) ⟨us, []⟩ = pure (ps.zip us))
    (hkb : ∀ q ∈ kb, ∀ (kV doc pm : Value) (an : Option Addr) (cdv ct : Value) (us ws : List Value), us.length = q.1 → ws.length = q.2.length → bindArgs (PySem.W.fnOf x qual params body scope .none kV doc pm an cdv ct) ⟨us, q.2.zip ws⟩ = pure (ps.zip (us ++ ws))) :
    Callee P w K mg base y ps kb k noFn :=
  ⟨f, fd, hm, F.kp, F.bindsN hb, fun q hq => kbn_of F (hkb q hq), ok_none k f fd ps⟩
end
section
variable {X : Cx} {B : Bs} {W : WX}
theorem de_callN {k n : Nat} {ps : List Str} {kb : List (Nat × List Str)} {m : Fn} {x : Str} {p pos : Pos} {e : Expr} {es : List Expr} {na : DEnv → Mu → Res (List D)} (C : Callee X.prog X.w X.K X.mg X.base x ps kb k m) (hr : Room k X.A) (tk : Takes X W) (hg : Gl X x) (ha : DA X B W (e :: es) na) (hn : ps.length = n := by rfl)
    (hdb : (x == ("__debug__" : Str)) = false := by decide) (he : starEach (e :: es) X.env = (false, eval e X.env) :: starEach es X.env := by rfl) (hpl : (backTo pos (starEach es X.env)).any (·.1) = false := by rfl) :
    DE X B W (.Call (.Name x p) (e :: es) [] pos) (dCall (fCall n m) na) := by
  subst hn
  obtain ⟨f, fd, h1, h2, h3, h4, h5⟩ := C.ex
  exact de_call (ds := []) (dvs := []) h5 hr tk hg h1 h2 h3 ha hdb he hpl
end
end Dv

/-! DvL: short forms of the rules, for printed derivations. -/
namespace Dv
open PySem PySem.Spec PyProof.Rows L2
section
variable {X : Cx} {B : Bs} {W : WX}
theorem vv (i : Nat) {x : Str} {pos : Pos} (h : X.N[i]? = some x := by rfl) (h2 : Vis X.env.scope x := by first | exact .inl rfl | exact .inr (.inl rfl) | exact .inr (.inr rfl) | rfl | decide +kernel) (h3 : (x == Str.ofString "__debug__") = false := by rfl) (h4 : (x == Str.ofString "__classdict__") = false := by rfl) : DE X B W (.Name x pos) (dVar i) := de_var (pv i h h2 h3 h4)
theorem boot_len' : bootBuiltins "len" = some (.builtin "len") := by kernel_rfl
theorem len_ {p pos : Pos} {e : Expr} {es : List Expr} {n : DEnv → Mu → Res (List D)} (hm : X.mg "len" = none) (ha : DA X B W (e :: es) n) (hg : Gl X "len" := by rfl) (he : starEach (e :: es) X.env = (false, eval e X.env) :: starEach es X.env := by rfl) (hpl : (backTo pos (starEach es X.env)).any (·.1) = false := by rfl) : DE X B W (.Call (.Name "len" p) (e :: es) [] pos) (dCall fLen n) := de_callB (call_len) ca_len hg hm boot_len' ha (by decide) (by decide) he hpl
theorem boot_all' : bootBuiltins "all" = some (.builtin "all") := by kernel_rfl
theorem all_ {p pos : Pos} {e : Expr} {es : List Expr} {n : DEnv → Mu → Res (List D)} (hm : X.mg "all" = none) (ha : DA X B W (e :: es) n) (hg : Gl X "all" := by rfl) (hc : X.calm = true := by rfl) (he : starEach (e :: es) X.env = (false, eval e X.env) :: starEach es X.env := by rfl) (hpl : (backTo pos (starEach es X.env)).any (·.1) = false := by rfl) : DE X B W (.Call (.Name "all" p) (e :: es) [] pos) (dCall fAll n) := de_callB (cr_all hc) ca_all hg hm boot_all' ha (by decide) (by decide) he hpl
theorem boot_int' : bootBuiltins "int" = some (.type "int") := by kernel_rfl
theorem int_ {p pos : Pos} {e : Expr} {es : List Expr} {n : DEnv → Mu → Res (List D)} (hm : X.mg "int" = none) (ha : DA X B W (e :: es) n) (hg : Gl X "int" := by rfl) (he : starEach (e :: es) X.env = (false, eval e X.env) :: starEach es X.env := by rfl) (hpl : (backTo pos (starEach es X.env)).any (·.1) = false := by rfl) : DE X B W (.Call (.Name "int" p) (e :: es) [] pos) (dCall fInt n) := de_callTy (call_int1) ca_int hg hm boot_int' ha (by decide) (by decide) he hpl
theorem boot_list' : bootBuiltins "list" = some (.type "list") := by kernel_rfl
theorem list_ {p pos : Pos} {e : Expr} {es : List Expr} {n : DEnv → Mu → Res (List D)} (hm : X.mg "list" = none) (ha : DA X B W (e :: es) n) (hg : Gl X "list" := by rfl) (he : starEach (e :: es) X.env = (false, eval e X.env) :: starEach es X.env := by rfl) (hpl : (backTo pos (starEach es X.env)).any (·.1) = false := by rfl) : DE X B W (.Call (.Name "list" p) (e :: es) [] pos) (dCall fList n) := de_callTy (call_list_of) ca_list hg hm boot_list' ha (by decide) (by decide) he hpl
theorem boot_tuple' : bootBuiltins "tuple" = some (.type "tuple") := by kernel_rfl
theorem tuple_ {p pos : Pos} {e : Expr} {es : List Expr} {n : DEnv → Mu → Res (List D)} (hm : X.mg "tuple" = none) (ha : DA X B W (e :: es) n) (hg : Gl X "tuple" := by rfl) (he : starEach (e :: es) X.env = (false, eval e X.env) :: starEach es X.env := by rfl) (hpl : (backTo pos (starEach es X.env)).any (·.1) = false := by rfl) : DE X B W (.Call (.Name "tuple" p) (e :: es) [] pos) (dCall fTuple n) := de_callTy (call_tuple_of) ca_tuple hg hm boot_tuple' ha (by decide) (by decide) he hpl
theorem boot_isi' : bootBuiltins "isinstance" = some (.builtin "isinstance") := by kernel_rfl
theorem isi_ {p pos : Pos} {e : Expr} {es : List Expr} {n : DEnv → Mu → Res (List D)} (hm : X.mg "isinstance" = none) (ha : DA X B W (e :: es) n) (hg : Gl X "isinstance" := by rfl) (he : starEach (e :: es) X.env = (false, eval e X.env) :: starEach es X.env := by rfl) (hpl : (backTo pos (starEach es X.env)).any (·.1) = false := by rfl) : DE X B W (.Call (.Name "isinstance" p) (e :: es) [] pos) (dCall fIsi n) := de_callB (call_isi.or (call_isiT.or call_isiK)) ca_isi hg hm boot_isi' ha (by decide) (by decide) he hpl
theorem ty_int {p : Pos} (hm : X.mg "int" = none) (hg : Gl X "int" := by rfl) : DE X B W (.Name "int" p) (dC (.ty "int")) := de_c (pe_bltn hg hm (u := .type "int") (by kernel_rfl) (show RelV (.ty "int") (.type "int") from rfl)) fun _ _ => rep_ty
theorem ty_bool {p : Pos} (hm : X.mg "bool" = none) (hg : Gl X "bool" := by rfl) : DE X B W (.Name "bool" p) (dC (.ty "bool")) := de_c (pe_bltn hg hm (u := .type "bool") (by kernel_rfl) (show RelV (.ty "bool") (.type "bool") from rfl)) fun _ _ => rep_ty
theorem ty_str {p : Pos} (hm : X.mg "str" = none) (hg : Gl X "str" := by rfl) : DE X B W (.Name "str" p) (dC (.ty "str")) := de_c (pe_bltn hg hm (u := .type "str") (by kernel_rfl) (show RelV (.ty "str") (.type "str") from rfl)) fun _ _ => rep_ty
theorem ty_tuple {p : Pos} (hm : X.mg "tuple" = none) (hg : Gl X "tuple" := by rfl) : DE X B W (.Name "tuple" p) (dC (.ty "tuple")) := de_c (pe_bltn hg hm (u := .type "tuple") (by kernel_rfl) (show RelV (.ty "tuple") (.type "tuple") from rfl)) fun _ _ => rep_ty
theorem ty_list {p : Pos} (hm : X.mg "list" = none) (hg : Gl X "list" := by rfl) : DE X B W (.Name "list" p) (dC (.ty "list")) := de_c (pe_bltn hg hm (u := .type "list") (by kernel_rfl) (show RelV (.ty "list") (.type "list") from rfl)) fun _ _ => rep_ty
theorem ix_ {a b : Expr} {ma mb : DEx} {pos : Pos} (ha : DE X B W a ma) (hb : DE X B W b mb) (hs : PlainIx b := by exact fun _ _ => rfl) : DE X B W (.Subscript a b pos) (dBin fIxS ma mb) := de_ix ix_seq opd_ixS ha hb hs
end
end Dv

/-! DvM: the law's end. -/
namespace Dv
open PySem PySem.Spec PyProof.Rows L2
section
variable {P : Program} {w : World} {K : PySem.W.Frag} {mg : Str → Option Value} {base : Heap} {k : Nat} {f : Addr} {fd : FuncData} {ps : List Str} {sp : Sp}
theorem ok_calm (F : FnOk P w K mg base (L2.CX P w) k f fd ps sp) : FnOk P w K mg base CX0 k f fd ps (fun vs H Q _ => sp vs H Q fun _ _ _ => False) := by
  refine ⟨fun vs H Q E h => F.len vs H Q _ h, fun A outer s H args us vs Q E a b c d h => codeAny_mono (F.run A outer s H args us vs Q _ a b c d h) fun r s' hr => ?_⟩
  cases r with
  | error e =>
    obtain ⟨_, _, _, _, _, _, _, _, _, _, _, _, z⟩ := hr
    exact z.elim
  | ok fl =>
    cases fl with
    | ret u => exact hr
    | next => exact hr
    | brk => exact hr
    | cont => exact hr
end
end Dv

/-! DvP: meanings evaluated, by plain lemmas. -/
namespace Dv
open PySem PySem.Spec PyProof.Rows L2
theorem seq_nx {a b : DSt} {env env' : DEnv} {μ μ' : Mu} {r : RS} (h : a env μ = some (.val .nx, env', μ')) (g : b env' μ' = r) : dSeq a b env μ = r := by
  unfold dSeq; rw [h]; exact g
theorem seq_ret {a b : DSt} {env env' : DEnv} {μ μ' : Mu} {d : D} (h : a env μ = some (.val (.ret d), env', μ')) : dSeq a b env μ = some (.val (.ret d), env', μ') := by
  unfold dSeq; rw [h]
theorem ifs_t {t : DEnv → Mu → Res Bool} {a b : DSt} {env : DEnv} {μ μ' : Mu} {r : RS} (h : t env μ = some (.val true, μ')) (g : a env μ' = r) : dIfS t a b env μ = r := by
  unfold dIfS bindS; rw [h]; exact g
theorem ifs_f {t : DEnv → Mu → Res Bool} {a b : DSt} {env : DEnv} {μ μ' : Mu} {r : RS} (h : t env μ = some (.val false, μ')) (g : b env μ' = r) : dIfS t a b env μ = r := by
  unfold dIfS bindS; rw [h]; exact g
theorem asg_ {m : DEx} {t : DTg} {env env' : DEnv} {μ μ' : Mu} {d : D} (h : m env μ = some (.val d, μ')) (n : nobor d = true) (g : t env (hold d) = some env') : dAsg m t env μ = some (.val .nx, env', μ') := by
  unfold dAsg bindS; rw [h]; simp only [n, g, if_true]
theorem clean_ {m : Fn} {ds : List D} {μ μ' : Mu} {d : D} (h : m ds μ = some (.val d, μ')) (n : nobor d = true) : cleanD m ds μ = some (.val d, μ') := by
  unfold cleanD; rw [h]; simp only [n, if_true]
theorem def_ret {n : Nat} {b : DSt} {ds : List D} {env : DEnv} {μ μ' : Mu} {d : D} (h : b (envD n ds) μ = some (.val (.ret d), env, μ')) (hn : nobor d = true) : cleanD (defD n b) ds μ = some (.val d, μ') :=
  clean_ (by unfold defD; rw [h]; rfl) hn
theorem call_ {n : Nat} {m : Fn} {ds : List D} {μ : Mu} {r : Res D} (h : m ds μ = r) (hl : ds.length = n := by rfl) (ha : ds.all nobor = true := by rfl) : fCall n m ds μ = r := by
  unfold fCall; rw [if_pos ⟨hl, ha⟩]; exact h
/-! ### comprehensions -/
theorem lc_map {α : Type} {tg : DTg} {tt : DEnv → Mu → Res Bool} {el : DEx} {env : DEnv} {μ : Mu} (f g : α → D) : ∀ (l : List α), (∀ a ∈ l, ∃ env1, tg env (f a) = some env1 ∧ tt env1 μ = some (.val true, μ) ∧ el env1 μ = some (.val (g a), μ) ∧ nobor (g a) = true) →
    lcRun tg tt el env (l.map f) μ = some (l.map fun a => hold (g a), μ)
  | [], _ => rfl
  | a :: l, h => by
    obtain ⟨env1, h1, h2, h3, h4⟩ := h a List.mem_cons_self
    simp only [List.map_cons]
    unfold lcRun
    simp only [h1, h2, h3, h4, if_true, lc_map f g l fun b hb => h b (List.mem_cons_of_mem _ hb)]
theorem dLc_of {it : DEnv → Mu → Res (List D)} {own : List Nat} {tg : DTg} {tt : DEnv → Mu → Res Bool} {el : DEx} {env : DEnv} {μ μ1 μ2 : Mu} {ds l : List D} (no : noOwn env own = true) (hi : it env μ = some (.val ds, μ1)) (hr : lcRun tg tt el (wipeD env own) ds μ1 = some (l, μ2)) : dLc it own tg tt el env μ = some (.val (.new l), μ2) := by
  unfold dLc
  rw [if_pos no, hi]
  simp only [bindR, lcFin, hr]
/-- every turn goes on -/
theorem for_nx {tg : DTg} {body : DSt} (I : DEnv → Mu → Prop) : ∀ (l : List D), (∀ d ∈ l, ∀ env μ, I env μ → ∃ env1 env2 μ2, tg env d = some env1 ∧ body env1 μ = some (.val .nx, env2, μ2) ∧ I env2 μ2) →
    ∀ env μ, I env μ → ∃ env' μ', forRun tg body l env μ = some (.val .nx, env', μ') ∧ I env' μ'
  | [], _, env, μ, h => ⟨env, μ, rfl, h⟩
  | d :: l, h, env, μ, hI => by
    obtain ⟨env1, env2, μ2, h1, h2, h3⟩ := h d List.mem_cons_self env μ hI
    obtain ⟨env3, μ3, e1, e2⟩ := for_nx I l (fun b hb => h b (List.mem_cons_of_mem _ hb)) env2 μ2 h3
    refine ⟨env3, μ3, ?_, e2⟩
    unfold forRun
    simp only [h1, h2, e1]
theorem for_of {it : DEnv → Mu → Res (List D)} {tg : DTg} {b : DSt} {env : DEnv} {μ μ1 : Mu} {ds : List D} {r : RS} (hi : it env μ = some (.val ds, μ1)) (hr : forRun tg b ds env μ1 = r) : dFor it tg b env μ = r := by
  unfold dFor bindS; rw [hi]; exact hr
/-! ### rows of intsD -/
abbrev intsD (l : List Int) : List D := l.map D.int
theorem asInts_intsD : ∀ l : List Int, asInts (intsD l) = some l
  | [] => rfl
  | i :: l => by
    have := asInts_intsD l
    show asInts (D.int i :: intsD l) = _
    unfold asInts
    rw [this]; rfl
theorem plainD_int (n : Nat) (i : Int) : plainD n (.int i) = true := by cases n <;> rfl
end Dv

/-! DvQ: what the laws' helpers mean, and what that comes to. -/
namespace Dv
open PySem PySem.Spec PyProof.Rows L2
def bDraw : DSt := (dSeq (dIfS (dAndT (dTest (dBin fEq (dBin fIxS (dVar 0) (dC (.int 2))) (dC (.int 0)))) (dTest (dBin (fCmp fun i j => decide (i < j)) (dBin fIxS (dVar 0) (dC (.int 1))) (dCall fLen (dCons (dBin fIxS (dVar 0) (dC (.int 0))) dNil))))) (dSeq (dAsg (dBin fIxS (dBin fIxS (dVar 0) (dC (.int 0))) (dBin fIxS (dVar 0) (dC (.int 1)))) (tName 2))
  (dSeq (dSetS (dBin fAdd (dBin fIxS (dVar 0) (dC (.int 1))) (dC (.int 1))) (dVar 0) (dC (.int 1)))
  (dIfS (dTest (dBin (fCmp fun i j => decide (j ≤ i)) (dVar 2) (dBin fPow (dC (.int 10)) (dC (.int 18))))) (dSetS (dVar 2) (dVar 0) (dC (.int 2))) (dSetS (dBin fMod (dCall fInt (dCons (dBin fAdd (dBin fAdd (dBin fMul (dBin fIxS (dVar 0) (dC (.int 3))) (dC (.int 45053))) (dBin fMul (dBin fMod (dCall fInt (dCons (dVar 2) dNil)) (dC (.int 2147483563))) (dC (.int 50033)))) (dC (.int 67))) dNil)) (dC (.int 2147483587))) (dVar 0) (dC (.int 3)))))) dSkip)
  (dSeq (dIfS (dTest (dBin (fCmp fun i j => decide (j < i)) (dBin fIxS (dVar 0) (dC (.int 2))) (dC (.int 0)))) (dSeq (dAsg (dBin fMod (dCall fInt (dCons (dBin fIxS (dVar 0) (dC (.int 2))) dNil)) (dVar 1)) (tName 3))
  (dSeq (dSetS (dBin fDiv (dBin fIxS (dVar 0) (dC (.int 2))) (dVar 1)) (dVar 0) (dC (.int 2)))
  (dRet (dVar 3)))) dSkip)
  (dSeq (dSetS (dBin fAdd (dBin fIxS (dVar 0) (dC (.int 4))) (dC (.int 1))) (dVar 0) (dC (.int 4)))
  (dSeq (dAsg (dBin fIxS (dVar 0) (dC (.int 3))) (tName 4))
  (dSeq (dSetS (dBin fMod (dCall fInt (dCons (dBin fAdd (dBin fAdd (dBin fAdd (dBin fMul (dVar 4) (dVar 4)) (dBin fMul (dVar 4) (dC (.int 33023)))) (dBin fMul (dBin fIxS (dVar 0) (dC (.int 4))) (dC (.int 1299709)))) (dC (.int 85571))) dNil)) (dC (.int 2147483587))) (dVar 0) (dC (.int 3)))
  (dRet (dBin fMod (dCall fInt (dCons (dBin fAdd (dBin fDiv (dBin fIxS (dVar 0) (dC (.int 3))) (dC (.int 71))) (dBin fMul (dBin fMod (dCall fInt (dCons (dBin fIxS (dVar 0) (dC (.int 3))) dNil)) (dC (.int 7907))) (dC (.int 59)))) dNil)) (dVar 1))))))))
def mDraw : Fn := cleanD (defD 5 bDraw)
def bOf : DSt := (dRet (dBin fIxS (dVar 1) (dCall (fCall 2 mDraw) (dCons (dVar 0) (dCons (dCall fLen (dCons (dVar 1) dNil)) dNil)))))
def mOf : Fn := cleanD (defD 2 bOf)
def bSum : DSt := (dRet (dCall fTuple (dCons (dLc (dArg fZip (dCons (dVar 1) (dCons (dVar 2) dNil))) [4, 5] (Dv.tTup 2 (tsCons (tName 4) (tsCons (tName 5) tsNil))) dYes (dBin fMod (dCall fInt (dCons (dBin fAdd (dVar 4) (dBin fMul (dVar 3) (dVar 5))) dNil)) (dVar 0))) dNil)))
def mSum : Fn := cleanD (defD 6 bSum)
def bLead : DSt := (dSeq (dAsg (dLc (dArg fRange1 (dCons (dCall fLen (dCons (dVar 0) dNil)) dNil)) [2] (tName 2) (dTest (dBin fNe (dBin fIxS (dVar 0) (dVar 2)) (dC (.int 0)))) (dVar 2)) (tName 1))
  (dRet (dIf (dTest (dBin fNe (dVar 1) (dLst dNil))) (dBin fIxS (dVar 1) (dC (.int 0))) (dBin fSub (dC (.int 0)) (dC (.int 1))))))
def mLead : Fn := cleanD (defD 3 bLead)
def bLike (f : Fn) : DSt := (dSeq (dIfS (dTest (dCall fIsi (dCons (dVar 1) (dCons (dTup (dCons (dC (.ty "list")) (dCons (dC (.ty "tuple")) dNil))) dNil)))) (dSeq (dIfS (dTest (dBin fNe (dCall fIsi (dCons (dVar 0) (dCons (dC (.ty "list")) dNil))) (dCall fIsi (dCons (dVar 1) (dCons (dC (.ty "list")) dNil))))) (dRet (dC (.bl false))) dSkip)
  (dSeq (dIfS (dTest (dBin fNe (dCall fIsi (dCons (dVar 0) (dCons (dC (.ty "tuple")) dNil))) (dCall fIsi (dCons (dVar 1) (dCons (dC (.ty "tuple")) dNil))))) (dRet (dC (.bl false))) dSkip)
  (dRet (dAndV (dBin fEq (dCall fLen (dCons (dVar 0) dNil)) (dCall fLen (dCons (dVar 1) dNil))) (dCall fAll (dCons (dLc (dArg fZip (dCons (dVar 0) (dCons (dVar 1) dNil))) [2, 3] (Dv.tTup 2 (tsCons (tName 2) (tsCons (tName 3) tsNil))) dYes (dCall (fCall 2 f) (dCons (dVar 2) (dCons (dVar 3) dNil)))) dNil)))))) dSkip)
  (dSeq (dIfS (dOrT (dTest (dBin (fIs false) (dVar 1) (dC .non))) (dTest (dBin (fIs false) (dVar 0) (dC .non)))) (dRet (dAndV (dBin (fIs false) (dVar 1) (dC .non)) (dBin (fIs false) (dVar 0) (dC .non)))) dSkip)
  (dSeq (dIfS (dOrT (dTest (dBin fNe (dCall fIsi (dCons (dVar 0) (dCons (dC (.ty "bool")) dNil))) (dCall fIsi (dCons (dVar 1) (dCons (dC (.ty "bool")) dNil))))) (dTest (dBin fNe (dCall fIsi (dCons (dVar 0) (dCons (dC (.ty "int")) dNil))) (dCall fIsi (dCons (dVar 1) (dCons (dC (.ty "int")) dNil)))))) (dRet (dC (.bl false))) dSkip)
  (dRet (dAndV (dBin fEq (dCall fIsi (dCons (dVar 0) (dCons (dC (.ty "str")) dNil))) (dCall fIsi (dCons (dVar 1) (dCons (dC (.ty "str")) dNil)))) (dBin fEq (dVar 0) (dVar 1)))))))
def mLike : Nat → Fn
  | 0 => noFn
  | n + 1 => cleanD (defD 4 (bLike (mLike n)))
def bMultiplied : DSt := (dRet (dCall fTuple (dCons (dLc (dIter (dVar 0)) [3] (tName 3) dYes (dBin fMod (dBin fMul (dVar 3) (dVar 1)) (dVar 2))) dNil)))
def mMultiplied : Fn := cleanD (defD 4 bMultiplied)
def bLeadingPlace : DSt := (dSeq (dFor (dArg fEnum (dCons (dVar 0) dNil)) (Dv.tTup 2 (tsCons (tName 1) (tsCons (tName 2) tsNil))) (dIfS (dTest (dBin fNe (dVar 2) (dC (.int 0)))) (dRet (dVar 1)) dSkip))
  (dRet (dCall fLen (dCons (dVar 0) dNil))))
def mLeadingPlace : Fn := cleanD (defD 3 bLeadingPlace)
def bInverse : DSt := (dRet (dBin fIxS (dLc (dArg fRange2 (dCons (dC (.int 1)) (dCons (dVar 1) dNil))) [2] (tName 2) (dTest (dBin fEq (dBin fMod (dBin fMul (dVar 0) (dVar 2)) (dVar 1)) (dC (.int 1)))) (dVar 2)) (dC (.int 0))))
def mInverse : Fn := cleanD (defD 3 bInverse)
def bScaled : DSt := (dSeq (dAsg (dCall (fCall 1 mLeadingPlace) (dCons (dVar 0) dNil)) (tName 2))
  (dSeq (dIfS (dTest (dBin fEq (dVar 2) (dCall fLen (dCons (dVar 0) dNil)))) (dRet (dCall fTuple (dCons (dVar 0) dNil))) dSkip)
  (dRet (dCall (fCall 3 mMultiplied) (dCons (dVar 0) (dCons (dCall (fCall 2 mInverse) (dCons (dBin fIxS (dVar 0) (dVar 2)) (dCons (dVar 1) dNil))) (dCons (dVar 1) dNil)))))))
def mScaled : Fn := cleanD (defD 3 bScaled)
structure OkS (s : Src) : Prop where
  sz : s.cells.length ≤ 63
  a0 : 0 ≤ s.at_
  s0 : 0 ≤ s.seed
  s1 : s.seed < 2147483587
theorem deq_int (i j : Int) : deq (.int i) (.int j) = decide (i = j) := by
  simp only [deq, toPy, PyData.eqv]; rfl
theorem feq_int (i j : Int) (μ : Mu) : fEq (.int i) (.int j) μ = some (.val (.bl (decide (i = j))), μ) := by
  simp only [fEq, plainD_int, Bool.and_self, if_true, deq_int, Dv.ret]
theorem sg1 (s : Src) : srcGet s 1 = some (.int s.at_) := rfl
theorem sg2 (s : Src) : srcGet s 2 = some (.int s.big) := rfl
theorem sg3 (s : Src) : srcGet s 3 = some (.int s.seed) := rfl
theorem sg4 (s : Src) : srcGet s 4 = some (.int s.cnt) := rfl
theorem sg0 (s : Src) (h : szl s.cells.length) : srcGet s 0 = some (.lst (intsD s.cells)) := by
  unfold srcGet; rw [if_pos rfl, if_pos h]
theorem ss1 (s : Src) (v : Int) : srcSet s 1 v = some { s with at_ := v } := rfl
theorem ss2 (s : Src) (v : Int) : srcSet s 2 v = some { s with big := v } := rfl
theorem ss3 (s : Src) (v : Int) : srcSet s 3 v = some { s with seed := v } := rfl
theorem ss4 (s : Src) (v : Int) : srcSet s 4 v = some { s with cnt := v } := rfl
theorem fmul_int (i j : Int) (μ : Mu) (h : j.natAbs < 18446744073709551616) : fMul (.int i) (.int j) μ = some (.val (.int (i * j)), μ) := by
  simp only [fMul, cmul, decide_eq_true h, Bool.or_true, if_true, Dv.ret]
theorem fmod_int (i j : Int) (μ : Mu) (h : 0 < j) : fMod (.int i) (.int j) μ = some (.val (.int (i % j)), μ) := by
  simp only [fMod, h, if_true, Dv.ret]
theorem fdiv_int (i j : Int) (μ : Mu) (h : 0 < j) (h2 : j < 1073741824) : fDiv (.int i) (.int j) μ = some (.val (.int (i / j)), μ) := by
  simp only [fDiv, h, h2, and_self, if_true, Dv.ret]
theorem fpow_1018 (μ : Mu) : fPow (.int 10) (.int 18) μ = some (.val (.int 1000000000000000000), μ) := by rfl
theorem ix_intsD (l : List Int) (i : Int) (h0 : 0 ≤ i) (h1 : i < l.length) : ∃ x, atI (intsD l) i = some (.int x) ∧ l[i.toNat]? = some x := by
  have hlt : i.toNat < l.length := by omega
  refine ⟨l[i.toNat], ?_, by simp [hlt]⟩
  unfold atI
  have e : ixN (intsD l).length i = some i.toNat := by
    unfold ixN
    rw [List.length_map, if_pos h0, if_pos h1]
  rw [e]
  simp [hlt]
/-! ### one of several -/
theorem atI_of {α : Type} {l : List α} {i : Int} (h0 : 0 ≤ i) (h1 : i < l.length) : atI l i = l[i.toNat]? := by
  unfold atI ixN
  rw [if_pos h0, if_pos h1]; rfl
end Dv

/-! DvR: rows of ints, likeness. -/
namespace Dv
open PySem PySem.Spec PyProof.Rows L2
/-! ### like -/
def lkD : Nat → D → Bool
  | _, .non => true
  | _, .bl _ => true
  | _, .int _ => true
  | _, .str x => PyData.strOk x
  | n + 1, .tup l => l.all (lkD n)
  | n + 1, .lst l => l.all (lkD n)
  | _, _ => false
theorem lk_nobor {n : Nat} {d : D} (h : lkD n d = true) : nobor d = true := by
  cases d <;> first | rfl | (cases n <;> simp [lkD] at h)
theorem lk_hold {n : Nat} {d : D} (h : lkD n d = true) : hold d = d := by
  cases d <;> first | rfl | (cases n <;> simp [lkD] at h)
theorem zip_self (l : List D) : List.zipWith pairD l l = l.map fun d => pairD d d := by
  induction l with
  | nil => rfl
  | cons a l ih => simp [ih]
theorem asBls_true (l : List D) : asBls (l.map fun _ => D.bl true) = some (l.map fun _ => true) := by
  induction l with
  | nil => rfl
  | cons a l ih =>
    simp only [List.map_cons]
    unfold asBls
    rw [ih]; rfl
theorem isi_tup_l (l : List D) (μ : Mu) : fIsi [.tup l, .ty "list"] μ = some (.val (.bl false), μ) := by rfl
theorem isi_tup_t (l : List D) (μ : Mu) : fIsi [.tup l, .ty "tuple"] μ = some (.val (.bl true), μ) := by rfl
theorem isi_lst_l (l : List D) (μ : Mu) : fIsi [.lst l, .ty "list"] μ = some (.val (.bl true), μ) := by rfl
theorem isi_lst_t (l : List D) (μ : Mu) : fIsi [.lst l, .ty "tuple"] μ = some (.val (.bl false), μ) := by rfl
theorem isi_tup_b (l : List D) (μ : Mu) : fIsi [.tup l, .tup [.ty "list", .ty "tuple"]] μ = some (.val (.bl true), μ) := by rfl
theorem isi_lst_b (l : List D) (μ : Mu) : fIsi [.lst l, .tup [.ty "list", .ty "tuple"]] μ = some (.val (.bl true), μ) := by rfl
theorem isi_non_b (μ : Mu) : fIsi [.non, .tup [.ty "list", .ty "tuple"]] μ = some (.val (.bl false), μ) := by rfl
theorem isi_bl_b (b : Bool) (μ : Mu) : fIsi [.bl b, .tup [.ty "list", .ty "tuple"]] μ = some (.val (.bl false), μ) := by rfl
theorem isi_int_b (b : Int) (μ : Mu) : fIsi [.int b, .tup [.ty "list", .ty "tuple"]] μ = some (.val (.bl false), μ) := by rfl
theorem isi_str_b (b : Str) (μ : Mu) : fIsi [.str b, .tup [.ty "list", .ty "tuple"]] μ = some (.val (.bl false), μ) := by rfl
theorem isi_bl (b : Bool) (μ : Mu) (t : String) (ht : t = "int" ∨ t = "bool" ∨ t = "str") : fIsi [.bl b, .ty t] μ = some (.val (.bl (decide (t ≠ "str"))), μ) := by
  rcases ht with rfl | rfl | rfl <;> rfl
theorem isi_int (b : Int) (μ : Mu) (t : String) (ht : t = "int" ∨ t = "bool" ∨ t = "str") : fIsi [.int b, .ty t] μ = some (.val (.bl (decide (t = "int"))), μ) := by
  rcases ht with rfl | rfl | rfl <;> rfl
theorem isi_str (b : Str) (μ : Mu) (t : String) (ht : t = "int" ∨ t = "bool" ∨ t = "str") : fIsi [.str b, .ty t] μ = some (.val (.bl (decide (t = "str"))), μ) := by
  rcases ht with rfl | rfl | rfl <;> rfl
theorem feq_bl_self (a : Bool) (μ : Mu) : fEq (.bl a) (.bl a) μ = some (.val (.bl true), μ) := by cases a <;> rfl
theorem fne_bl_self (a : Bool) (μ : Mu) : fNe (.bl a) (.bl a) μ = some (.val (.bl false), μ) := by cases a <;> rfl
theorem deq_str (x : Str) : deq (.str x) (.str x) = true := by
  simp [deq, toPy, PyData.eqv]
theorem feq_str_self (x : Str) (h : PyData.strOk x = true) (μ : Mu) : fEq (.str x) (.str x) μ = some (.val (.bl true), μ) := by
  have hp : plainD 60 (.str x) = true := by unfold plainD; exact h
  simp only [fEq, hp, Bool.and_self, if_true, deq_str, Dv.ret]
theorem like_seq {x y : SV} {n : Nat} {l : List D} {μ : Mu} (hn : ∀ d ∈ l, nobor d = true) (hh : ∀ d ∈ l, hold d = d) (ih : ∀ d ∈ l, mLike n [d, d] μ = some (.val (.bl true), μ)) :
    lcRun (Dv.tTup 2 (tsCons (tName 2) (tsCons (tName 3) tsNil))) dYes (dCall (fCall 2 (mLike n)) (dCons (dVar 2) (dCons (dVar 3) dNil))) [x, y, .no, .no] (List.zipWith pairD l l) μ = some (l.map fun _ => .bl true, μ) := by
  rw [zip_self, lc_map (fun d => pairD d d) (fun _ => .bl true)]
  · rfl
  · intro d hd
    refine ⟨[x, y, .v d, .v d], rfl, rfl, ?_, rfl⟩
    simp only [dCall, dCons, dNil, dVar, bindR, Dv.ret, hh d hd, List.getElem?_cons_zero, List.getElem?_cons_succ, fCall, List.length_cons, List.length_nil, List.all_cons, List.all_nil, hn d hd, Bool.and_self, and_self, if_true, ih d hd, Nat.zero_add, Nat.reduceAdd]
/-- what is like itself -/
theorem like_refl {μ : Mu} : ∀ (n : Nat) (d : D), lkD n d = true → mLike (n + 1) [d, d] μ = some (.val (.bl true), μ) := by
  intro n
  induction n with
  | zero => ?_
  | succ n ih => ?_
  all_goals intro d hd
  all_goals refine def_ret (env := [.v d, .v d, .no, .no]) ?_ rfl
  all_goals show bLike _ [.v d, .v d, .no, .no] μ = _
  all_goals cases d
  all_goals try (simp [lkD] at hd; done)
  all_goals try simp (decide := true) only [bLike, dSeq, dIfS, dRet, dSkip, unbor, bindS, dTest, fTest, dBin, dC, dVar, dOrT, dAndV, bindR, Dv.ret, hold, dCall, dCons, dNil, dTup, fTup, List.all_cons, List.all_nil, nobor, Bool.and_self, and_self, if_true, List.length_cons, List.length_nil, List.getElem?_cons_zero, List.getElem?_cons_succ, isi_non_b, isi_bl_b, isi_int_b, isi_str_b, fIs, isNon, bne_self_eq_false, isi_bl _ _ "bool" (.inr (.inl rfl)), isi_bl _ _ "int" (.inl rfl), isi_bl _ _ "str" (.inr (.inr rfl)), isi_int _ _ "bool" (.inr (.inl rfl)), isi_int _ _ "int" (.inl rfl), isi_int _ _ "str" (.inr (.inr rfl)), isi_str _ _ "bool" (.inr (.inl rfl)), isi_str _ _ "int" (.inl rfl), isi_str _ _ "str" (.inr (.inr rfl)), fne_bl_self, feq_bl_self, feq_int, decide_true, Bool.false_eq_true, if_false, Bool.false_bne]
  case zero.str x => rw [feq_str_self x (by simpa [lkD] using hd)]
  case succ.str x => rw [feq_str_self x (by simpa [lkD] using hd)]
  case succ.tup l =>
    have hl : ∀ d ∈ l, lkD n d = true := List.all_eq_true.mp (by simpa [lkD] using hd)
    have hc : dLc (dArg fZip (dCons (dVar 0) (dCons (dVar 1) dNil))) [2, 3] (Dv.tTup 2 (tsCons (tName 2) (tsCons (tName 3) tsNil))) dYes (dCall (fCall 2 (mLike (n + 1))) (dCons (dVar 2) (dCons (dVar 3) dNil))) [.v (.tup l), .v (.tup l), .no, .no] μ = some (.val (.new (l.map fun _ => .bl true)), μ) :=
      dLc_of rfl rfl (like_seq (fun d hd => lk_nobor (hl d hd)) (fun d hd => lk_hold (hl d hd)) fun d hd => ih d (hl d hd))
    have ha : fAll [.lst (l.map fun _ => .bl true)] μ = some (.val (.bl true), μ) := by
      have e : (l.map fun _ => true).all id = true := by rw [List.all_map]; exact List.all_eq_true.mpr fun _ _ => rfl
      simp only [fAll, seqL, asBls_true, e, Dv.ret]
    simp (decide := true) only [isi_tup_b, isi_tup_l, isi_tup_t, hc, ha, fne_bl_self, feq_int, decide_true, if_true, Bool.false_eq_true, if_false, fLen, List.getElem?_cons_zero, List.getElem?_cons_succ, hold]
  case succ.lst l =>
    have hl : ∀ d ∈ l, lkD n d = true := List.all_eq_true.mp (by simpa [lkD] using hd)
    have hc : dLc (dArg fZip (dCons (dVar 0) (dCons (dVar 1) dNil))) [2, 3] (Dv.tTup 2 (tsCons (tName 2) (tsCons (tName 3) tsNil))) dYes (dCall (fCall 2 (mLike (n + 1))) (dCons (dVar 2) (dCons (dVar 3) dNil))) [.v (.lst l), .v (.lst l), .no, .no] μ = some (.val (.new (l.map fun _ => .bl true)), μ) :=
      dLc_of rfl rfl (like_seq (fun d hd => lk_nobor (hl d hd)) (fun d hd => lk_hold (hl d hd)) fun d hd => ih d (hl d hd))
    have ha : fAll [.lst (l.map fun _ => .bl true)] μ = some (.val (.bl true), μ) := by
      have e : (l.map fun _ => true).all id = true := by rw [List.all_map]; exact List.all_eq_true.mpr fun _ _ => rfl
      simp only [fAll, seqL, asBls_true, e, Dv.ret]
    simp (decide := true) only [isi_lst_b, isi_lst_l, isi_lst_t, hc, ha, fne_bl_self, feq_int, decide_true, if_true, Bool.false_eq_true, if_false, fLen, List.getElem?_cons_zero, List.getElem?_cons_succ, hold]
end Dv

/-! DvS: what the helpers of rows answer. -/
namespace Dv
open PySem PySem.Spec PyProof.Rows L2
theorem hold_new (l : List D) : hold (.new l) = .lst l := rfl
theorem hold_lst (l : List D) : hold (.lst l) = .lst l := rfl
theorem hold_tup (l : List D) : hold (.tup l) = .tup l := rfl
theorem hold_bor (l : List D) : hold (.bor l) = .bor l := rfl
theorem hold_int (i : Int) : hold (.int i) = .int i := rfl
theorem hold_bl (i : Bool) : hold (.bl i) = .bl i := rfl
theorem hold_str (i : Str) : hold (.str i) = .str i := rfl
theorem hold_obj (i : Nat) : hold (.obj i) = .obj i := rfl
theorem hold_ty (i : String) : hold (.ty i) = .ty i := rfl
theorem hold_non : hold .non = .non := rfl
theorem nobor_new (l : List D) : nobor (.new l) = true := rfl
theorem nobor_lst (l : List D) : nobor (.lst l) = true := rfl
theorem nobor_tup (l : List D) : nobor (.tup l) = true := rfl
theorem nobor_int (i : Int) : nobor (.int i) = true := rfl
theorem nobor_bl (i : Bool) : nobor (.bl i) = true := rfl
theorem nobor_str (i : Str) : nobor (.str i) = true := rfl
theorem nobor_obj (i : Nat) : nobor (.obj i) = true := rfl
theorem nobor_ty (i : String) : nobor (.ty i) = true := rfl
theorem nobor_non : nobor .non = true := rfl
end Dv

/-! DvT: the leading place, inverses, scaled rows. -/
namespace Dv
open PySem PySem.Spec PyProof.Rows L2
/-- the first place that isn't 0 -/
def leadN : List Int → Nat
  | [] => 0
  | x :: l => if x = 0 then leadN l + 1 else 0
theorem leadN_le : ∀ l : List Int, leadN l ≤ l.length
  | [] => Nat.le_refl _
  | x :: l => by
    unfold leadN
    have := leadN_le l
    split
    · simp; omega
    · simp
theorem leadN_ne : ∀ {l : List Int}, leadN l < l.length → ∃ x, l[leadN l]? = some x ∧ x ≠ 0
  | [], h => by simp [leadN] at h
  | x :: l, h => by
    unfold leadN at h ⊢
    split
    · rename_i h0
      rw [if_pos h0] at h
      obtain ⟨y, e, n⟩ := leadN_ne (l := l) (by simp at h; omega)
      exact ⟨y, by simpa using e, n⟩
    · rename_i h0
      exact ⟨x, rfl, h0⟩
theorem leadN_zero : ∀ {l : List Int}, leadN l = l.length → ∀ x ∈ l, x = 0
  | [], _, x, h => absurd h List.not_mem_nil
  | y :: l, h, x, hx => by
    unfold leadN at h
    split at h
    · rename_i h0
      simp at h
      rcases List.mem_cons.mp hx with rfl | hx
      · exact h0
      · exact leadN_zero (l := l) h x hx
    · simp at h
theorem leadN_cons (x : Int) (l : List Int) : leadN (x :: l) = if x = 0 then leadN l + 1 else 0 := rfl
/-! ### inverses -/
structure Prm (p : Int) : Prop where
  is : p = 2 ∨ p = 3 ∨ p = 5 ∨ p = 7
/-! ### scaled -/
/-! ### the law's own leading place -/
end Dv

/-! DvU: equality of data, the source, more. -/
namespace Dv
open PySem PySem.Spec PyProof.Rows L2
/-! ### the drawer's making -/
theorem cut_intsD (l : List Int) (lo hi : Option Int) : cutD (intsD l) lo hi = intsD (cutD l lo hi) := by
  unfold cutD intsD
  rw [List.length_map, List.map_take, List.map_drop]
/-! ### zeros -/
end Dv

/-! DwA: an own error's __init__ that begins with super().__init__(text): the context, the first statement, the def by the rest of its body. -/
namespace Dv
open PySem PySem.Spec PyProof.Rows L2
/-- such a def, the class D in its cell -/
structure SupD (P : Program) (K : PySem.W.Frag) (x qual : Str) (params : Arguments) (body : List Stmt) (scope : Scope) (f : Addr) (fd : FuncData) (D : Addr) : Prop where
  ex : ∃ (oc : Value) (od : Option Addr) (kV doc pm : Value) (an : Option Addr) (cda : Addr) (ct : Value) (osl : Array (Option Value)) (cc : Addr) (cl : Value) (cld : Option Addr) (csl : Array (Option Value)) (ccl : Value) (cdd : Option Addr) (vs : Array Value) (ccs : Array (Option Value)) (file : Str) (tf : Tok),
    fd = PySem.W.ksFn x qual params body scope .none kV doc pm an (.ref cda) ct cc ∧ K.lookup f = some ⟨oc, od, .func fd, osl⟩ ∧ PySem.W.codeIn K (.ref cda) qual = true ∧ K.lookup cda = some ⟨ccl, cdd, .fields vs, ccs⟩ ∧ vs[2]? = some (.str file tf) ∧ (P.main.file == file) = true ∧ K.lookup cc = some ⟨cl, cld, .cell (some (.ref D)), csl⟩
  kp : PySem.W.keepIn K (.ref f) = true
structure SupScope (N ps : List Str) (sc : Scope) : Prop where
  kind : sc.kind = ScopeKind.function
  co : sc.isCoroutine = false
  gen : sc.isGenerator = false
  nd : N.Nodup
  pre : N.take ps.length = ps
  par : ∀ x ∈ ps, sc.names.lookup x = some .local
  nocell : ∀ y ∈ sc.names, y.2 ≠ .cell
  free : ∀ y ∈ sc.names, y.2 = .free → y.1 = "__class__"
  cls : sc.names.lookup ("__class__" : Str) = some .free
  sup : sc.names.lookup ("super" : Str) = some .globalImplicit
abbrev envS (qual : Str) (scope : Scope) (L f : Addr) (cd : Value) (cc : Addr) : Env := PySem.W.ksEnv qual scope L f cd cc
def cxS (P : Program) (w : World) (K : PySem.W.Frag) (mg : Str → Option Value) (base : Heap) (N : List Str) (qual : Str) (scope : Scope) (f : Addr) (cd : Value) (cc : Addr) (A : Around) (outer : List Env) (s : Shared) (H : Hp) (E : XK) : Cx where
  prog := P
  w := w
  K := K
  mg := mg
  base := base
  A := A.deeper (envS qual scope s.heap.objs.size f cd cc)
  N := N
  s_0 := s
  H_0 := H
  env := envS qual scope s.heap.objs.size f cd cc
  outer := outer
  stack := envS qual scope s.heap.objs.size f cd cc :: outer
  ex := []
  calm := true
  fn := fun _ => false
  pn := []
  xe := fun e s' => wpAny (model P w) (A.deeper (envS qual scope s.heap.objs.size f cd cc)) (leaving (envS qual scope s.heap.objs.size f cd cc) e) (fun _ s'' => L2.CX P w outer H s E e s'') (fun e' s'' => L2.CX P w outer H s E e' s'') s'
theorem lookup_mem_nodup {α : Type} {x : Str} {v : α} : ∀ {l : List (Str × α)}, (l.map (·.1)).Nodup → (x, v) ∈ l → l.lookup x = some v
  | [], _, h => absurd h List.not_mem_nil
  | (y, u) :: l, nd, h => by
    rw [List.map_cons, List.nodup_cons] at nd
    rcases List.mem_cons.mp h with e | h
    · cases e; simp [List.lookup]
    · have ne : ¬ x = y := fun e => nd.1 (by rw [← e]; exact List.mem_map.mpr ⟨_, h, rfl⟩)
      have e : (x == y) = false := by simpa using ne
      unfold List.lookup
      rw [e]
      exact lookup_mem_nodup nd.2 h
/-- what stands at the entry comes from the arguments -/
theorem start_get {N : List Str} {vs : List V} {i : Nat} {v : V} (h : (L2.start N vs)[i]? = some (some v)) : vs[i]? = some v := by
  have h : (vs.map some ++ List.replicate (N.length - vs.length) (none : Option V))[i]? = some (some v) := h
  rw [List.getElem?_append, List.length_map] at h
  split at h
  · rw [List.getElem?_map] at h
    cases q : vs[i]? <;> rw [q] at h <;> cases h
    rfl
  · rw [List.getElem?_replicate] at h
    split at h <;> cases h
theorem mem_free {sc : Scope} {y : Str} {k : NameKind} (h : sc.names.lookup y = some k) : (y, k) ∈ sc.names := PySem.mem_of_lookup h
section
variable {P : Program} {w : World} {K : PySem.W.Frag} {mg : Str → Option Value} {base : Heap} {N ps : List Str} {qual : Str} {scope : Scope} {f cc : Addr} {cd : Value} {A : Around} {outer : List Env} {s : Shared} {H : Hp} {E : XK} {us : List Value} {vs : List V} {h1 : Heap}
theorem inv_startS {cl : Value} {cld : Option Addr} {csl : Array (Option Value)} {D : Addr} (S : SupScope N ps scope) (hd : A.handled = none) (e0 : Env0 P w K mg base A outer s H) (hl : vs.length = ps.length) (r : Vals vs us) (hc : K.lookup cc = some ⟨cl, cld, .cell (some (.ref D)), csl⟩)
    (hns : h1.Ns s.heap.objs.size (fun x => (ps.zip us).reverse.lookup x)) (hk : ∀ b o, s.heap.get? b = some o → h1.get? b = some o) (tk : Nat) :
    Inv (cxS P w K mg base N qual scope f cd cc A outer s H E) [] (L2.start N vs) H { s with heap := h1, toks := tk } := by
  have hpl : ps.length ≤ N.length := by have := congrArg List.length S.pre; rw [List.length_take] at this; omega
  have noA : ∀ b : Addr, b ∉ (cxS P w K mg base N qual scope f cd cc A outer s H E).ex := fun b z => absurd (show b ∈ ([] : List Addr) from z) (by simp)
  have one : ∀ {x : Str} {c : Addr}, List.lookup x [(("__class__" : Str), cc)] = some c → x = "__class__" ∧ c = cc := fun {x c} h => by
    have := PySem.mem_of_lookup h
    simp only [List.mem_cons, List.not_mem_nil, or_false, Prod.mk.injEq] at this
    exact this
  have hcell : base.get? cc = some ⟨cl, cld, .cell (some (.ref D)), csl⟩ := e0.mod.kin _ _ hc
  have hcs := e0.bs _ _ hcell
  refine ⟨⟨e0.mod, S.kind, rfl, rfl, Nat.le_refl _, fun y z c h1 h2 => ?_, fun y hy => ?_, fun y c hf _ => (by cases hf), fun _ => hd, Around.frames_deeper e0.frames, .inr ⟨rfl, rfl⟩, fun b z => absurd z (noA b), e0.bs, e0.bsz, fun b _ _ => noA b, fun b z => absurd z (noA b), e0.funs, e0.frf⟩,
    rfl, e0.bare, Un.kept hk, ⟨_, hns, fun i y v h1 h2 h3 => ?_⟩, fun y c h => ⟨some (.ref D), ?_⟩, e0.hok.fresh (Nat.le_refl _), fun y c h => ?_, fun p hp => absurd (show p ∈ ([] : List (Addr × Obj)) from hp) (by simp), e0.hok.kept hk, ?_⟩
  · exact (one h1).1.trans (one h2).1.symm
  · have hy : scope.names.lookup y = some .cell ∨ scope.names.lookup y = some .free := hy
    rcases hy with hy | hy
    · exact absurd rfl (S.nocell _ (mem_free hy))
    · have e := S.free _ (mem_free hy) rfl
      have e : y = "__class__" := e
      subst e
      exact ⟨cc, rfl⟩
  · have ha := start_get h2
    obtain ⟨u, hu, rv⟩ := r.get ha
    have hi : i < vs.length := (List.getElem?_eq_some_iff.mp ha).1
    have hp : ps[i]? = some y := S.pre ▸ ((List.getElem?_take_of_lt (by omega)).trans h1 : (N.take ps.length)[i]? = some y)
    have ndP : ps.Nodup := S.pre ▸ S.nd.sublist (List.take_sublist ps.length N)
    refine ⟨u, rv, .inl ⟨S.par y (List.mem_of_getElem? hp), ?_⟩⟩
    have hm : (y, u) ∈ ps.zip us := List.mem_iff_getElem?.mpr ⟨i, by rw [List.getElem?_zip_eq_some]; exact ⟨hp, hu⟩⟩
    refine lookup_mem_nodup ?_ (List.mem_reverse.mpr hm)
    rw [List.map_reverse]
    have hul : us.length = ps.length := by rw [← Paired.length r]; exact hl
    have : (ps.zip us).map (·.1) = ps := List.map_fst_zip (by omega)
    rw [this]
    exact (List.pairwise_reverse).mpr (ndP.imp fun h => Ne.symm h)
  · have := one h
    rw [this.2]
    exact ⟨_, hk _ _ hcs.1, rfl⟩
  · have := one h
    rw [this.2]
    exact hcs.2
  · unfold L2.start
    show _ = N.length
    rw [List.length_append, List.length_map, List.length_replicate]
    omega
/-! ### errors over ValueError, LookupError, IndexError -/
inductive EBase where
  | ve | le | ie
def EBase.nm : EBase → String
  | .ve => "ValueError"
  | .le => "LookupError"
  | .ie => "IndexError"
def EBase.new : EBase → String
  | .ve => "ValueError.__new__"
  | .le => "LookupError.__new__"
  | .ie => "IndexError.__new__"
def EBase.ini : EBase → String
  | .ve => "ValueError.__init__"
  | .le => "LookupError.__init__"
  | .ie => "IndexError.__init__"
def EBase.tail : EBase → List Value
  | .ve => [.type "ValueError", .type "Exception", .type "BaseException", .type "object"]
  | .le => [.type "LookupError", .type "Exception", .type "BaseException", .type "object"]
  | .ie => [.type "IndexError", .type "LookupError", .type "Exception", .type "BaseException", .type "object"]
theorem EBase.facts : ∀ b : EBase, ExcBaseFacts b.nm b.new b.ini b.tail
  | .ve => F.excBase_ValueError
  | .le => F.excBase_LookupError
  | .ie => F.excBase_IndexError
theorem EBase.store : ∀ b : EBase, StoreFacts b.nm b.tail "object.__setattr__" "object"
  | .ve => F.store_ValueError
  | .le => F.store_LookupError
  | .ie => F.store_IndexError
theorem EBase.kxs : ∀ b : EBase, PySem.W.KxsFacts b.nm b.ini
  | .ve => PySem.W.kxs_ValueError
  | .le => PySem.W.kxs_LookupError
  | .ie => PySem.W.kxs_IndexError
/-- what the written part says of an own error class over the base b -/
structure OexN (K : PySem.W.Frag) (C : Addr) (b : EBase) : Prop where
  cls : ∃ nm q N bs bm sn sub ab col dd k0 k1 k2 k3 k5, K.lookup C = some (excClassObj nm q C N bs bm true sn sub ab col dd k0 k1 k2 k3 k5 b.new) ∧ PySem.W.excTail b.tail bm = true
  sa : PySem.W.findIn K (.ref C) "__setattr__" = some (some (.builtin "object.__setattr__"))
  exC : PySem.W.subIn K (.ref C) (.type "BaseException") = some true
  tyC : PySem.W.typeIn K (.ref C) = some (.type "type")
  kC : PySem.W.keepIn K (.ref C) = true
/-- what the class C of the object that is made has, D the class in the cell -/
structure SupC (K : PySem.W.Frag) (C D : Addr) (b : EBase) : Prop where
  oex : OexN K C b
  clsD : ∃ cd, PySem.W.clsIn K D = some cd
  sub : PySem.W.mroIn K C (.ref D) = some true
  sup : PySem.W.ks_superIn K C D "__init__" = some (some (.builtin b.ini))
  subV : PySem.W.subIn K (.ref C) (.type b.nm) = some true
  nop : PySem.W.nsIn K cStatics "thirdparty.any" = some none
theorem call_mw {b0 : EBase} {C u x t0 : Addr} {rest : List Value} {A : Around} {E : Value → Shared → Prop} {Q : Value → Shared → Prop} {prog : Program} {w : World} {s : Shared} (T : OexN K C b0) (KX : K.In s.heap)
    (hu : s.heap.get? u = some (PySem.W.kxs_mw b0.ini x)) (hx : s.heap.get? x = some (PySem.W.excObj C t0 none .none)) (hz : rest.length ≤ sizeLine)
    (h : ∀ t' h', (∀ b o, b ≠ x → s.heap.get? b = some o → h'.get? b = some o) → h'.get? x = some (PySem.W.excObj C t' none .none) → Q .none { s with heap := h' }) :
    wpAny (model prog w) A (call (.ref u) rest) Q E s := by
  obtain ⟨nm, q, N, bs, bm, sn, sub, ab, col, dd, k0, k1, k2, k3, k5, hC, hbm⟩ := T.cls
  have hC' := KX _ _ hC
  obtain ⟨hh, g, d, tk, os⟩ := s
  refine wpAny_call (codeAny_of_tree ?_)
  show wpAny _ A.in1 (callAny (.ref u) ⟨rest, []⟩) _ _ _
  simp only [callAny]
  refine wpAny_bind (wpAny_load hu ?_)
  simp only [PySem.W.kxs_mw, show (Value.type "method-wrapper" == Value.type "method" || Value.type "method-wrapper" == Value.type "builtin_function_or_method" || Value.type "method-wrapper" == Value.type "method-wrapper") = true by decide, if_true]
  refine PySem.W.KFB.if_so (by decide) ?_
  refine wpAny_bind (PySem.W.check_bound_init b0.facts.toExcCallFacts hC' hx rfl ?_)
  refine wpAny_bind (wpAny_pure (wpAny_pure ?_))
  refine ⟨plainId_quiet b0.facts.init.plain _, codeAny_builtin b0.facts.initEntry ?_⟩
  exact PySem.W.exc_init_tree (cls := .ref C) (t0 := t0) (dv := none) (c2 := .none) (c3 := .none) (b4 := .bool false) hx hz fun h' k e' _ => h _ h' k e'
theorem super_step {b0 : EBase} {σ : L2.St} {H0 : Hp} {s1 : Shared} {a C D cda : Addr} {oc : Value} {od : Option Addr} {fd : FuncData} {osl : Array (Option Value)} {ar : Arg} {ccl : Value} {cdd : Option Addr} {fvs : Array Value} {ccs : Array (Option Value)} {file : Str} {tf : Tok} {cl : Value} {cld : Option Addr} {csl : Array (Option Value)} {body : List Stmt} {p0 p1 p2 p3 p4 pos : Pos} {txt : Str} {j : Nat} {Q : Flow → Shared → Prop} {E' : Value → Shared → Prop}
    (I : Inv (cxS P w K mg base N qual scope f (.ref cda) cc A outer s H0 E) [] σ H s1) (S : SupScope N ps scope) (hf : K.lookup f = some ⟨oc, od, .func fd, osl⟩) (hpar : (fd.params.posonlyargs ++ fd.params.args).head? = some ar) (har : scope.names.lookup ar.arg = some .local) (hN : N[0]? = some ar.arg) (hσ : σ[0]? = some (some (.ref a)))
    (hcode : K.lookup cda = some ⟨ccl, cdd, .fields fvs, ccs⟩) (hvs : fvs[2]? = some (.str file tf)) (hfile : (P.main.file == file) = true) (hcell : K.lookup cc = some ⟨cl, cld, .cell (some (.ref D)), csl⟩) (T : SupC K C D b0) (hmg : mg "super" = none) (htop : (P.main.scope.names.lookup ("super" : Str)).isSome = false) (e : H a = some (exo a C none))
    {pl : Sem Bool} (he : eval (.Call (.Attribute (.Call (.Name "super" p0) [] [] p1) "__init__" p2) [.Constant (.str txt) j p3] [] p4) (envS qual scope s.heap.objs.size f (.ref cda) cc) = (do
      let ov ← attributeBase (.Call (.Name "super" p0) [] [] p1) "__init__" (envS qual scope s.heap.objs.size f (.ref cda) cc) (eval (.Call (.Name "super" p0) [] [] p1) (envS qual scope s.heap.objs.size f (.ref cda) cc))
      standAt p2.atName
      let (f', first) ← holding [ov] (getMethod ov "__init__" pl)
      callWith p4 f' first (backTo p4 (starEach [.Constant (.str txt) j p3] (envS qual scope s.heap.objs.size f (.ref cda) cc))) []))
    (q : ∀ s', Inv (cxS P w K mg base N qual scope f (.ref cda) cc A outer s H0 E) [] σ H s' → Q .next s') :
    _root_.PySem.wpAt (model P w) (A.deeper (envS qual scope s.heap.objs.size f (.ref cda) cc)) (.func body (envS qual scope s.heap.objs.size f (.ref cda) cc)) (exec (.Expr (.Call (.Attribute (.Call (.Name "super" p0) [] [] p1) "__init__" p2) [.Constant (.str txt) j p3] [] p4) pos) (envS qual scope s.heap.objs.size f (.ref cda) cc)) Q E' s1 := by
  have KX : K.In s1.heap := I.kIn
  obtain ⟨m, hn, hlook⟩ := I.loc
  obtain ⟨u, ru, lk⟩ := hlook 0 ar.arg (.ref a) hN hσ (.inl har)
  have ru : u = .ref a := ru
  subst ru
  have hv : m ar.arg = some (.ref a) := by
    rcases lk with ⟨_, h⟩ | ⟨hk, _⟩
    · exact h
    · have hk : scope.names.lookup ar.arg = some .cell ∨ scope.names.lookup ar.arg = some .free := hk
      rw [har] at hk
      rcases hk with hk | hk <;> cases hk
  obtain ⟨t1, ho⟩ := exo_at I.hok e
  obtain ⟨cdD, hD⟩ := T.clsD
  obtain ⟨oD, hD1, hD2⟩ : ∃ oD, s1.heap.get? D = some oD ∧ oD.data = .cls cdD := by
    unfold PySem.W.clsIn at hD
    split at hD
    · rename_i c d cd' sl ho
      cases hD
      exact ⟨_, KX _ _ ho, rfl⟩
    · cases hD
  have hi : interactive (envS qual scope s.heap.objs.size f (.ref cda) cc) = false := I.quiet
  obtain ⟨hp, g, d, t, os⟩ := s1
  refine ks_wpAt_Expr_any (hi := hi) (ks_wpAt_MethodCall (pl := pl) (ks_wpAt_super_base S.sup S.cls (by decide) rfl (KX _ _ hf) rfl hpar rfl (KX _ _ hcode) rfl hvs hfile htop ?_) he)
  obtain ⟨mb, b1, b2⟩ := I.mod.blt
  refine PySem.W.ks_loadName_global S.kind S.sup (Calls.loadGlobal_builtin (I.mod.glob.keeps I.bk) hmg (b1.keeps I.bk) ((b2 "super" (by decide)).trans (by kernel_rfl : bootBuiltins "super" = some (.type "super"))) ⟨rfl, ?_⟩)
  refine wpAny_loadName_free S.kind S.cls rfl ⟨_, KX _ _ hcell, rfl⟩ ?_
  refine wpAny_loadName_local S.kind har hn hv ?_
  refine ks_wpAny_isType_cls hD1 hD2 ⟨rfl, ?_⟩
  refine ks_wpAny_call_super hD1 hD2 ho rfl (fun c z => by cases z) (PySem.W.looks_mroIn KX T.sub) (fun h' e' k => ?_)
  have I2 : Inv (cxS P w K mg base N qual scope f (.ref cda) cc A outer s H0 E) [] σ H ⟨h', g, d, t, os⟩ := I.kept (t' := t) k
  have ho2 := k _ _ ho
  have hin : PySem.W.InstAt h' a (PySem.W.excObj C t1 none .none) C none := ⟨ho2, rfl, rfl, trivial⟩
  obtain ⟨nm, qq, NN, bs, bm, sn, sub, ab, col, dd, k0, k1, k2, k3, k5, hC, hbm⟩ := T.oex.cls
  have hcl : ∃ cdC, PySem.W.clsIn K C = some cdC := by
    have := T.sup
    unfold PySem.W.ks_superIn at this
    cases z : PySem.W.clsIn K C with
    | none => rw [z] at this; cases this
    | some cdC => exact ⟨_, rfl⟩
  obtain ⟨cdC, hcC⟩ := hcl
  have hm := T.sup
  unfold PySem.W.ks_superIn at hm
  rw [hcC] at hm
  refine PySem.W.kxs_getMethod b0.kxs e' (PySem.W.looks_opaque I2.kIn T.nop) (l₀ := cdC.mro) (fun A Q E s k q => wpAny_bind ((PySem.W.looks_clsIn I2.kIn hcC) A _ E s k (wpAny_pure q))) rfl I2.kIn hm (hin.type.andThen (PySem.W.looks_subIn I2.kIn T.subV)) (PySem.W.ks_ne I2.kIn hin hcC) (by decide) ?_
  refine PySem.W.kxs_callWith (i := b0.ini) (x := a) rfl ?_
  refine Calls.evalArgs_plain ?_
  refine spliced_lits (pos := p4) (env := envS qual scope s.heap.objs.size f (.ref cda) cc) [.Constant (.str txt) j p3] [.str txt] _ _ rfl (fun vs tk hvs2 => ⟨Heap.get?_push_at rfl rfl, ?_⟩)
  have hlen : vs.length ≤ sizeLine := by
    cases hvs2 with
    | cons _ h =>
      cases h
      rw [sizeLine_eq]
      show 1 ≤ 16777216
      decide
  have I3 : Inv (cxS P w K mg base N qual scope f (.ref cda) cc A outer s H0 E) [] σ H ⟨h'.push (PySem.W.kxs_mw b0.ini a), g, d, tk, os⟩ := I2.kept (t' := tk) fun b o z => Heap.get?_push_of_some _ z
  refine call_mw T.oex I3.kIn (Heap.get?_push_at rfl rfl) (Heap.get?_push_of_some _ ho2) hlen fun t' h2 k2 e2 => q _ ?_
  have J := I3.write (t' := tk) (x := a) (e := a) (o := exo a C none) (by rw [e]; exact True.intro) (.inl rfl) k2 ⟨_, e2⟩ (exo_ok e2)
  have eu : upd H a (exo a C none) = H := by
    funext b
    by_cases hb : b = a
    · rw [hb, upd_same, e]
    · rw [upd_ne hb]
  rw [eu] at J
  exact J
/-- such a def, by the rest of its body -/
theorem sup_ok {x : Str} {params : Arguments} {rest : List Stmt} {fd : FuncData} {D : Addr} {ar : Arg} {k : Nat} {sp : Sp} {p0 p1 p2 p3 p4 pos : Pos} {txt : Str} {j : Nat} {pl : Sem Bool}
    (F : SupD P K x qual params (.Expr (.Call (.Attribute (.Call (.Name "super" p0) [] [] p1) "__init__" p2) [.Constant (.str txt) j p3] [] p4) pos :: rest) scope f fd D) (S : SupScope N ps scope) (hpar : (params.posonlyargs ++ params.args).head? = some ar) (har : scope.names.lookup ar.arg = some .local) (hN : N[0]? = some ar.arg)
    (hmg : mg "super" = none) (htop : (P.main.scope.names.lookup ("super" : Str)).isSome = false) (len : ∀ vs H Q E, sp vs H Q E → vs.length = ps.length) (first : ∀ vs H Q E, sp vs H Q E → ∃ a C vs' b0, vs = V.ref a :: vs' ∧ H a = some (exo a C none) ∧ SupC K C D b0)
    (he : ∀ env : Env, eval (.Call (.Attribute (.Call (.Name "super" p0) [] [] p1) "__init__" p2) [.Constant (.str txt) j p3] [] p4) env = (do
      let ov ← attributeBase (.Call (.Name "super" p0) [] [] p1) "__init__" env (eval (.Call (.Name "super" p0) [] [] p1) env)
      standAt p2.atName
      let (f', first) ← holding [ov] (getMethod ov "__init__" pl)
      callWith p4 f' first (backTo p4 (starEach [.Constant (.str txt) j p3] env)) []))
    (hrest : ∀ (cda cc : Addr) (A : Around) (outer : List Env) (s : Shared) (H : Hp) (vs : List V) (Q : VK) (E : XK), Room k (A.deeper (envS qual scope s.heap.objs.size f (.ref cda) cc)) → sp vs H Q E →
      ∃ t, PSs (cxS P w K mg base N qual scope f (.ref cda) cc A outer s H E) rest t ∧ t { nx := fun _ H' => Q .non H', rt := Q } (L2.start N vs) H) :
    FnOk P w K mg base (L2.CX P w) (k + 1) f fd ps sp := by
  obtain ⟨oc, od, kV, doc, pm, an, cda, ct, osl, cc, cl, cld, csl, ccl, cdd, fvs, ccs, file, tf, rfl, lk, hcd, hcode, hvs, hfile, hcell⟩ := F.ex
  refine ⟨len, fun A outer s H args us vs Q E hr e0 hb r hsp => ?_⟩
  have hl := len _ _ _ _ hsp
  obtain ⟨a, C, vs', b0, ev, ea, T⟩ := first _ _ _ _ hsp
  have KX : K.In s.heap := e0.mod.kin.keeps fun b o e => (e0.bs b o e).1
  have lim : s.heap.NoLimit := e0.mod.nolimit.keeps fun b o e => (e0.bs b o e).1
  refine ks_codeAny_call_defAt hr.depth (KX _ _ lk) rfl lim (PySem.W.codeRec_of KX hcd) rfl hb S.nocell (fun ⟨n, v⟩ hy => S.par n (List.of_mem_zip hy).1) (fun h1 hns hk => ?_) S.co S.gen S.kind
  have I : Inv (cxS P w K mg base N qual scope f (.ref cda) cc A outer s H E) [] (L2.start N vs) H { s with heap := h1, toks := s.toks + (ps.zip us).length } := inv_startS S hr.hd e0 hl r hcell hns hk _
  obtain ⟨t, ht, hq⟩ := hrest cda cc A outer s H vs Q E (hr.deeper _) hsp
  refine ks_wpAt_execs_cons ?_
  refine super_step I S lk hpar har hN (by rw [ev]; rfl) hcode hvs hfile hcell T hmg htop ea (he _) fun s' J => ?_
  refine wpAt_of_wpAny (wpAny_mono (ht.run [] s' (L2.start N vs) H _ J hq) (fun fl s2 hs => ?_) fun e s2 hs => hs)
  have back : ∀ {σ' : L2.St} {H' : Hp} {v : V} {u : Value}, Inv (cxS P w K mg base N qual scope f (.ref cda) cc A outer s H E) [] σ' H' s2 → RelV v u → Q v H' → CE outer P w H s Q u s2 := fun J rv q => ⟨_, _, J.os, J.bare, J.base, J.hok, rv, q⟩
  cases fl
  · obtain ⟨_, _, J, q⟩ := hs; exact back (v := .non) J rfl q
  · obtain ⟨_, _, _, q⟩ := hs; exact q.elim
  · obtain ⟨_, _, _, q⟩ := hs; exact q.elim
  · obtain ⟨_, _, _, J, rv, q⟩ := hs; exact back J rv q
end
end Dv

/-! DwAA: such errors' fields are stored; such errors are made, with or without arguments. -/
namespace Dv
open PySem PySem.Spec PyProof.Rows L2 Builtin Builtin.ObjectAttr
section
variable {K : PySem.W.Frag} {C : Addr} {b : EBase} {prog : Program} {w : World} {A : Around} {R : Result → Shared → Prop} {hp : Heap} {g : Array GenState} {dr : Drawn} {t : Nat} {os : OsState} {name : Str} {tk : Tok} {v : Value} {x dx : Addr} {fv : Array Value}
theorem OexN.over (T : OexN K C b) : PySem.W.excOver K C b.tail = true := by
  obtain ⟨nm, q, N, bs, bm, sn, sub, ab, col, dd, k0, k1, k2, k3, k5, hC, hbm⟩ := T.cls
  unfold PySem.W.excOver PySem.W.clsIn
  rw [hC]
  show ((C == C) && PySem.W.excTail b.tail bm) = true
  rw [hbm, Bool.and_true]
  exact beq_self_eq_true C
theorem OexN.look (T : OexN K C b) (M : Model) {h : Heap} (KX : K.In h) : ∃ cd, PySem.W.Looks M h (classData C) cd ∧ cd.hasDict = true := by
  obtain ⟨nm, q, N, bs, bm, sn, sub, ab, col, dd, k0, k1, k2, k3, k5, hC, hbm⟩ := T.cls
  refine ⟨⟨nm, bs, .ref C :: bm, N, q, true, sn, sub, ab, col, false⟩, PySem.W.looks_clsIn KX ?_, rfl⟩
  unfold PySem.W.clsIn
  rw [hC]
theorem taker_none (own : PySem.W.findIn K (.ref C) name = some none) : PySem.W.takerIn K C name = some none := by
  unfold PySem.W.takerIn
  rw [own]; rfl
/-- the first field -/
theorem field_first (T : OexN K C b) (KX : K.In hp) (at_ : hp.get? x = some { cls := .ref C, data := .fields fv }) (own : PySem.W.findIn K (.ref C) name = some none)
    (q : ∀ h2 tk2 dx, (∀ c o, c ≠ x → hp.get? c = some o → h2.get? c = some o) → hp.objs.size ≤ dx → dx ≠ x → h2.get? x = some { cls := .ref C, dict := some dx, data := .fields fv } → h2.Ns1 dx (fun y => if y = name then some v else none) → R (.ok (.ret .none)) ⟨h2, g, dr, tk2, os⟩) :
    codeAny (model prog w) A (.call (.builtin "object.__setattr__") ⟨[.ref x, .str name tk, v], []⟩) R ⟨hp, g, dr, t, os⟩ := by
  refine PySem.W.osa_openX (s := ⟨hp, g, dr, t, os⟩) b.store KX (od := none) ⟨at_, rfl, rfl, trivial⟩ T.over (taker_none own) fun bb => ?_
  obtain ⟨cd, lk, hd⟩ := T.look (model prog w) KX
  have fresh : x ≠ hp.objs.size := Nat.ne_of_lt (Heap.lt_size at_)
  obtain ⟨c1, c2, c3, c4, c5, c6, c7, c8, c9, c10, c11⟩ := cd
  cases hd
  unfold storeInOwnDict ownDictForStores
  repeat (first | with_reducible refine PySem.HandSPX.store_in_new ?_ ?_ | with_reducible refine wpAny_loadPart_at at_ ?_ | with_reducible refine lk.at ?_ | wp_step)
  · exact ⟨_, #[], _, (Heap.get?_update_ne _ _ _ _ (Ne.symm fresh)).trans (Heap.get?_push_at rfl rfl), rfl, (fun e he => absurd he (by simp)), fun _ => rfl⟩
  · intro h2 tk2 ns same
    have pushed : (hp.push { cls := .type "dict", data := .dict #[] }).get? x = some { cls := .ref C, data := .fields fv } := Heap.get?_push_of_some _ at_
    refine q h2 tk2 hp.objs.size (fun c o nc e => ?_) (Nat.le_refl _) (Ne.symm fresh) ((same.2 x fresh).trans (Heap.get?_update_self _ pushed rfl)) ns
    rw [same.2 c (Nat.ne_of_lt (Heap.lt_size e)), Heap.get?_update_ne _ _ _ _ nc]
    exact Heap.get?_push_of_some _ e
/-- a further field -/
theorem field_more {m0 : Str → Option Value} {nl : List Str} (T : OexN K C b) (KX : K.In hp) (at_ : hp.get? x = some { cls := .ref C, dict := some dx, data := .fields fv }) (ns : hp.Ns1 dx m0) (wi : Within m0 nl) (few : nl.length ≤ 1000) (own : PySem.W.findIn K (.ref C) name = some none)
    (q : ∀ h2 tk2, (∀ c o, c ≠ dx → hp.get? c = some o → h2.get? c = some o) → h2.Ns1 dx (fun y => if y = name then some v else m0 y) → R (.ok (.ret .none)) ⟨h2, g, dr, tk2, os⟩) :
    codeAny (model prog w) A (.call (.builtin "object.__setattr__") ⟨[.ref x, .str name tk, v], []⟩) R ⟨hp, g, dr, t, os⟩ := by
  obtain ⟨od, _, _, there, _, _⟩ := ns.count wi
  refine PySem.W.osa_openX (s := ⟨hp, g, dr, t, os⟩) b.store KX (od := some od) ⟨at_, rfl, rfl, there⟩ T.over (taker_none own) fun bb => ?_
  obtain ⟨cd, lk, hd⟩ := T.look (model prog w) KX
  obtain ⟨c1, c2, c3, c4, c5, c6, c7, c8, c9, c10, c11⟩ := cd
  cases hd
  unfold storeInOwnDict ownDictForStores
  repeat (first | with_reducible refine PySem.OEX.store_in_old ns wi few ?_ | with_reducible refine wpAny_loadPart_at at_ ?_ | with_reducible refine lk.at ?_ | wp_step)
  intro h2 tk2 ns2 same
  exact q h2 tk2 (fun c o nc e => (same.2 c nc).trans e) ns2
end
section
variable {X : Cx} {pins : List (Addr × Obj)} {σ : L2.St} {H : Hp} {s : Shared} {a C dx : Addr} {b : EBase} {f : Str} {y : V} {u : Value} {fs : List (Str × V)} {Q : Unit → Shared → Prop} {E : Value → Shared → Prop} {A : Around}
theorem set_first (T : OexN X.K C b) (I : Inv X pins σ H s) (e : H a = some (exo a C none)) (own : PySem.W.findIn X.K (.ref C) f = some none) (ry : RelV y u)
    (q : ∀ dx s2, H dx = none → dx ≠ a → Inv X pins σ (upd (upd H dx (exd dx [(f, y)])) a (exo a C (some dx))) s2 → Q () s2) : wpAny (model X.prog X.w) A (setAttr (.ref a) f u) Q E s := by
  obtain ⟨t1, at_⟩ := exo_at I.hok e
  obtain ⟨hp, g, dr, t, os⟩ := s
  refine PySem.W.set_plain I.kIn (od := none) ⟨at_, rfl, rfl, trivial⟩ T.sa (field_first T I.kIn at_ own fun h2 tk2 dx keep new ne at2 ns => ?_)
  have nd : H dx = none := I.hok.fresh new
  have old_ne : ∀ {c : Addr} {o : Obj}, hp.get? c = some o → c ≠ dx := fun z => Nat.ne_of_lt (Nat.lt_of_lt_of_le (Heap.lt_size z) new)
  have no_a : ∀ {c : Addr}, H c = none → c ≠ a := fun n z => by rw [z, e] at n; cases n
  have same : ∀ {c : Addr} {o : HO}, H c = some o → exo a C none ≠ o → upd (upd H dx (exd dx [(f, y)])) a (exo a C (some dx)) c = H c := fun {c o} z d => by
    rw [upd_ne (at_ne e z d), upd_ne (ne_of_none z nd)]
  refine q dx _ nd ne (I.un (t' := tk2) ⟨fun c o z n _ _ => keep c o (no_a n) z, fun c o z n _ _ => ⟨o.slots, keep c o (no_a n) z⟩, fun c o z n _ => ?_, fun c o z _ => ?_, fun c xs z => ?_, fun c o v z => ?_, fun c ps z => ⟨#[], ?_⟩⟩ fun c o z => ?_)
  · rw [upd_ne (no_a n), upd_ne (old_ne z)]; exact n
  · by_cases h : c = a
    · exact ⟨_, h ▸ at2⟩
    · exact ⟨o, keep c o h z⟩
  · rw [same z exo_tup]; exact z
  · rw [same z exo_frz]; exact z
  · rw [same z exo_tbl, z]; simp
  · by_cases h : c = a
    · rw [h] at z ⊢
      rw [upd_same] at z
      cases z
      exact exo_ok at2
    · rw [upd_ne h] at z
      by_cases h2 : c = dx
      · rw [h2] at z ⊢
        rw [upd_same] at z
        cases z
        exact exd_ok ns (relO_put (fs := []) ry fun _ => True.intro)
      · rw [upd_ne h2] at z
        refine (I.hok c o z).stay (fun d v hd => keep d v ?_) (fun d hd => ?_) fun d xs hd => ?_
        · rcases hd with hd | hd
          · exact fun z2 => h (hd ▸ z2)
          · exact at_ne e hd exo_own
        · rw [same hd exo_own]; exact hd
        · rw [same hd exo_tup]; exact hd
theorem set_more (T : OexN X.K C b) (I : Inv X pins σ H s) (e : H a = some (exo a C (some dx))) (ed : H dx = some (exd dx fs)) (few : fs.length ≤ 900) (own : PySem.W.findIn X.K (.ref C) f = some none) (ry : RelV y u)
    (q : ∀ s2, Inv X pins σ (upd H dx (exd dx ((f, y) :: fs))) s2 → Q () s2) : wpAny (model X.prog X.w) A (setAttr (.ref a) f u) Q E s := by
  obtain ⟨t1, at_⟩ := exo_at I.hok e
  obtain ⟨mA, ns, rel⟩ := exd_at I.hok ed
  have wi := within_of rel
  obtain ⟨hp, g, dr, t, os⟩ := s
  obtain ⟨od, _, _, there, _, _⟩ := ns.count wi
  refine PySem.W.set_plain I.kIn (od := some od) ⟨at_, rfl, rfl, there⟩ T.sa (field_more T I.kIn at_ ns wi (by rw [List.length_map]; omega) own fun h2 tk2 keep ns2 => ?_)
  refine q _ (I.write (t' := tk2) (x := dx) (e := dx) (o := exd dx ((f, y) :: fs)) (by rw [ed]; exact True.intro) (.inl rfl) keep ?_ (exd_ok ns2 (relO_put ry rel)))
  obtain ⟨o, _, _, z, _⟩ := ns2
  exact ⟨o, z⟩
end
/-- self.f = e, over any of these bases -/
def tSt (K : PySem.W.Frag) (f : Str) (to te : TE) : TS := fun D σ H => te σ H fun y H1 => to σ H1 fun x H2 => ∃ (a C : Addr) (b : EBase), x = .ref a ∧ OexN K C b ∧ PySem.W.findIn K (.ref C) f = some none ∧
  ((H2 a = some (exo a C none) ∧ ∀ dx, H2 dx = none → dx ≠ a → D.nx σ (upd (upd H2 dx (exd dx [(f, y)])) a (exo a C (some dx)))) ∨
    ∃ (dx : Addr) (fs : List (Str × V)), H2 a = some (exo a C (some dx)) ∧ H2 dx = some (exd dx fs) ∧ fs.length ≤ 900 ∧ D.nx σ (upd H2 dx (exd dx ((f, y) :: fs))))
section
variable {X : Cx} {o e : Expr} {es : List Expr} {to te : TE} {ta : TA} {f x : Str} {p p' pos : Pos}
theorem ps_st (ho : PE X o to) (he : PE X e te) (sw : swapsWith e (some (.Attribute o f p')) pos.line X.env = pure false) : PS X (.Assign [.Attribute o f p'] e pos) (tSt X.K f to te) := by
  constructor
  intro pins s σ H D I h
  refine plainObj_wpAny_Assign_Attribute (thn (he.run pins s σ H _ I h) ?_) sw
  rintro v s1 ⟨y, H1, I1, r1, q1⟩
  refine thn (ho.run pins s1 σ H1 _ I1 q1) ?_
  rintro u s2 ⟨_, H2, I2, r2, a, C, b, rfl, T, own, q⟩
  have eu : u = Value.ref a := r2
  subst eu
  rcases q with ⟨ea, q⟩ | ⟨dx, fs, ea, ed, few, q⟩
  · exact set_first T I2 ea own r1 fun dx s3 n ne J => ⟨σ, _, J, q dx n ne⟩
  · exact set_more T I2 ea ed few own r1 fun s3 J => ⟨σ, _, J, q⟩
/-- the object is laid, its own init runs -/
theorem made_by {CX : CXT} {pins : List (Addr × Obj)} {σ : L2.St} {H1 : Hp} {s1 : Shared} {C fI : Addr} {b : EBase} {k : Nat} {fd : FuncData} {ps : List Str} {sp : Sp} {us : List Value} {vs : List V} {Q : XK} (T : OexN X.K C b) (iC : PySem.W.findIn X.K (.ref C) "__init__" = some (some (.ref fI))) (tI : PySem.W.typeIn X.K (.ref fI) = some (.type "function"))
    (F1 : FnOk X.prog X.w X.K X.mg X.base CX k fI fd ps sp) (hr : Room (k + 1) X.A) (hb : Binds X.K fd ps []) (nox : Passes CX X (fun _ _ _ => False)) (I1 : Inv X pins σ H1 s1) (r1 : Vals vs us) (few : vs.length ≤ 1000)
    (told : ∀ a, H1 a = none → sp (.ref a :: vs) (upd H1 a (exo a C none)) (fun v H2 => v = .non ∧ ∃ (d : Addr) (fs : List (Str × V)), H2 a = some (exo a C (some d)) ∧ H2 d = some (exd d fs) ∧ H1 d = none ∧ Q (.ref C) (some d) (upd (del H2 a) d (.xd fs))) (fun _ _ _ => False)) :
    wpAny (model X.prog X.w) X.A (call (.ref C) us) (fun u s2 => MkP X pins σ Q u s2) X.xe s1 := by
  obtain ⟨nm, q, N, bs, bm, sn, sub, ab, col, dd, k0, k1, k2, k3, k5, hC, tail⟩ := T.cls
  obtain ⟨hp, g, dr, tk, os⟩ := s1
  have up : hp.objs.size ≤ hp.objs.size + 1 := Nat.le_succ _
  have told := told _ (I1.hok.fresh up)
  have grown : ∀ c o, hp.get? c = some o → ((hp.push (PySem.W.kdv_tup us)).push (PySem.HandSPX.excO C hp.objs.size)).get? c = some o := fun c o z => Heap.get?_push_of_some _ (Heap.get?_push_of_some _ z)
  have there : ((hp.push (PySem.W.kdv_tup us)).push (PySem.HandSPX.excO C hp.objs.size)).get? (hp.objs.size + 1) = some (PySem.HandSPX.excO C hp.objs.size) := by heap_get
  have J := I1.laid (t' := tk) (o := exo (hp.objs.size + 1) C none) grown up (exo_ok there)
  have r2 : Vals (V.ref (hp.objs.size + 1) :: vs) (Value.ref (hp.objs.size + 1) :: us) := .cons rfl r1
  have all : (Value.ref (hp.objs.size + 1) :: us).length = ps.length := by rw [← F1.len _ _ _ _ told]; exact r2.length.symm
  have bind := hb ⟨_, g, dr, tk, os⟩ _ J.kIn (by rw [List.append_nil]; exact all)
  rw [List.append_nil] at bind
  have short : us.length ≤ sizeLine := by rw [← Paired.length r1, sizeLine_eq]; omega
  refine wpAny_call (PySem.HandSPX.call_own b.facts (fun Y => PySem.W.excTail_contains Y bm tail) (I1.kIn _ _ hC) (PySem.W.looks_findIn I1.kIn iC) (fun self => PySem.W.bind_fn I1.kIn self tI) short ?_)
  refine codeAny_mono (F1.run _ X.stack _ _ _ _ _ _ _ (hr.make C us []) (J.env0.make C us []) bind r2 told) fun r s2 out => ?_
  match r, out with
  | .error er, out => exact nox pins σ _ _ er s2 J out
  | .ok .next, out => exact False.elim out
  | .ok .brk, out => exact False.elim out
  | .ok .cont, out => exact False.elim out
  | .ok (.ret u), out =>
    obtain ⟨_, H2, o2, bare, un, hok, rv, rfl, d, fs, ea, ed, nd, z⟩ := out
    exact ⟨rv, mk_end (raises_own T.exC T.tyC) I1 up grown un hok o2 bare ea ed nd z⟩
/-- C(e, ..), told so -/
theorem pmk_n {CX : CXT} {C fI : Addr} {b : EBase} {k : Nat} {fd : FuncData} {ps : List Str} {sp : Sp} (T : OexN X.K C b) (iC : PySem.W.findIn X.K (.ref C) "__init__" = some (some (.ref fI))) (tI : PySem.W.typeIn X.K (.ref fI) = some (.type "function"))
    (F1 : FnOk X.prog X.w X.K X.mg X.base CX k fI fd ps sp) (hr : Room (k + 1) X.A) (hb : Binds X.K fd ps []) (nox : Passes CX X (fun _ _ _ => False)) (hg : Gl X x) (hm : X.mg x = some (.ref C)) (ha : PA X (e :: es) ta)
    (hdb : (x == ("__debug__" : Str)) = false) (he : starEach (e :: es) X.env = (false, eval e X.env) :: starEach es X.env) (hpl : (backTo pos (starEach es X.env)).any (·.1) = false) : PMk X (.Call (.Name x p) (e :: es) [] pos) (tMkO C sp [] ta) := by
  intro pins s σ H Q I h
  apply wpAny_Call_Name_kw (ld_glob I hg hm ?_ hdb)
  apply PySem.W.callWith_K (h₀ := X.base) I.ok.mod.kin T.kC ?_ he hpl
  refine thn (ha.run pos pins s σ H _ I h) fun us s1 ⟨vs, H1, I1, r1, few, told⟩ => ⟨I1.kIn, ?_⟩
  exact made_by T iC tI F1 hr hb nox I1 r1 few fun c n => by have := told c n; rwa [List.append_nil] at this
end
end Dv

/-! DwB: own errors as values: what can be raised can be held, its fields read. -/
namespace Dv
open PySem PySem.Spec PyProof.Rows L2
theorem exv_ok {P : Program} {w : World} {H : Hp} {h : Heap} {a C d : Addr} {oe : Obj} {vs : Array Value} (ha : h.get? a = some oe) (hc : oe.cls = .ref C) (hd : oe.dict = some d) (hf : oe.data = Data.fields vs) : ObjOk P w H h a (exv a C d) := by
  refine ⟨⟨oe, vs, ha, hc, hd, hf⟩, ⟨oe, ha⟩, ?_⟩
  rintro g1 g2 ⟨o, v, q1, q2⟩ keep
  exact ⟨o, v, keep o q1, q2⟩
theorem exv_at {P : Program} {w : World} {H : Hp} {h : Heap} {a C d : Addr} (hok : HOk P w H h) (he : H a = some (exv a C d)) : ∃ oe vs, h.get? a = some oe ∧ oe.cls = .ref C ∧ oe.dict = some d ∧ oe.data = Data.fields vs :=
  (show _ ∧ _ from hok a _ he).1
/-- e.f, e an error of ours -/
def tXv (K : PySem.W.Frag) (f : Str) (te : TE) : TE := fun σ H Q => te σ H fun x H1 => ∃ (a C d : Addr) (fs : List (Str × V)) (v : V), x = .ref a ∧ XfC K C ∧ PySem.W.findIn K (.ref C) f = some none ∧ H1 a = some (exv a C d) ∧ H1 d = some (.xd fs) ∧ fs.lookup f = some v ∧ Q v H1
theorem pe_xv {X : Cx} {e : Expr} {te : TE} {pos : Pos} {n : Str} (he : PE X e te) (plain : attributeBase e n X.env (eval e X.env) = eval e X.env := by rfl) : PE X (.Attribute e n pos) (tXv X.K n te) := by
  constructor
  intro pins s σ H Q I hq
  refine attr_of plain (thn (he.run pins s σ H _ I hq) fun u s1 back => ?_)
  obtain ⟨x, H1, J, rel, a, C, d, fs, v, rfl, T, own, ea, ed, known, q⟩ := back
  have eu : u = Value.ref a := rel
  subst eu
  obtain ⟨oe, vs, at_, cl, di, data⟩ := exv_at J.hok ea
  obtain ⟨mA, ns, fields⟩ := (show ∃ mA, s1.heap.Ns1 d mA ∧ ∀ f, RelO (fs.lookup f) (mA f) from J.hok d _ ed)
  obtain ⟨od, got, look⟩ := lookIn_ns ns
  obtain ⟨r, hr, rr⟩ := RelO.some_of (v := v) (o := mA n) (known ▸ fields n)
  have inst : PySem.W.InstAt s1.heap a oe C (some od) := ⟨at_, cl, by unfold PySem.W.notCls; rw [data], by rw [di]; exact got⟩
  refine HandSPX.exc_get J.kIn inst T.ga T.gg T.exC (PySem.W.findObj_own T.hdC own rfl ?_) (handed_of rr) ⟨v, H1, J.tok _, rr, q⟩
  rw [look, hr]
end Dv

/-! DwC: what a caught error is, by itself; try with one clause for three classes at once, the error by a name. -/
namespace Dv
open PySem PySem.Spec PyProof.Rows L2
/-- the error at a has been caught in X's def: the state behind it, and the error in flight over the ground B -/
def Caught (X : Cx) (pins : List (Addr × Obj)) (a : Addr) (cls : Value) (d : Option Addr) (σ : L2.St) (H : Hp) (s : Shared) : Prop :=
  ∃ (B : Heap) (sI : Shared), Inv X pins σ H sI ∧ (∀ b o, sI.heap.get? b = some o → b ∉ frs X.stack → B.get? b = some o) ∧ sI.heap.UpToSlots s.heap ∧ HandSPX.FlyingZ B (X.env :: X.outer) a (Zc cls d) s.heap ∧ H a = none ∧ s.os = sI.os ∧ AllBare s.gens
section
variable {X : Cx} {pins : List (Addr × Obj)} {a : Addr} {cls : Value} {d : Option Addr} {σ : L2.St} {H : Hp} {s : Shared}
theorem Caught.inv (c : Caught X pins a cls d σ H s) : Inv X pins σ H s :=
  let ⟨_, _, J, nb, up, fl, _, os, ag⟩ := c
  J.landed nb fl.1 up os ag
theorem Caught.none_ (c : Caught X pins a cls d σ H s) : H a = none := let ⟨_, _, _, _, _, _, z, _⟩ := c; z
theorem Caught.grow {h' : Heap} (c : Caught X pins a cls d σ H s) (k : ∀ b o, s.heap.get? b = some o → h'.get? b = some o) : Caught X pins a cls d σ H { s with heap := h' } := by
  obtain ⟨B, sI, J, nb, up, ⟨f1, f2, f3, oe, vs, T, oT, ts, g1, g2, g3, g4, g5, g6, g7, g8, g9⟩, z, os, ag⟩ := c
  refine ⟨B, sI, J, nb, up.trans fun b o e _ => ⟨o.slots, k b o e⟩, ⟨fun b o e => k b o (f1 b o e), f2, ?_, oe, vs, T, oT, ts, k _ _ g1, g2, g3, g4, g5, g6, k _ _ g7, g8, g9⟩, z, os, ag⟩
  exact f3.of_keeps fun b o e _ => ⟨o, k b o e, rfl⟩
/-- the object, and the suite's state -/
theorem Caught.suite (c : Caught X pins a cls d σ H s) (hs : X.stack = X.env :: X.outer) (hf : X.env.frame = some X.env.locals) :
    ∃ oe : Obj, s.heap.get? a = some oe ∧ Zc cls d oe ∧ (∃ vs, oe.data = .fields vs) ∧ Inv (X.suite a ((a, oe) :: (X.pn ++ pins))) [] σ H s := by
  have J := c.inv
  obtain ⟨B, _, _, _, _, fl, z, _, _⟩ := c
  obtain ⟨oe, vs, at_, zc, data⟩ := fl.there
  have off : a ∉ frs X.stack := by
    rw [hs]
    intro m
    obtain ⟨_, o, e, nf⟩ := fl.2.2.1.mem m
    exact nf vs (by rw [← Option.some.inj (at_.symm.trans e)]; exact data)
  have off1 : a ≠ X.env.locals := by
    rintro rfl
    exact off (by rw [hs]; exact List.mem_filterMap.mpr ⟨_, .head _, hf⟩)
  have off2 : a ∉ X.fs := by
    intro m
    obtain ⟨v, v1, v2⟩ := List.mem_filterMap.mp m
    exact off (by rw [hs]; exact List.mem_filterMap.mpr ⟨v, .tail _ v1, v2⟩)
  exact ⟨oe, at_, zc, ⟨vs, data⟩, J.suite at_ data z off1 off2⟩
/-- the error joins what is tracked, as a value -/
theorem Caught.value {C dd : Addr} (c : Caught X pins a (.ref C) (some dd) σ H s) (hs : X.stack = X.env :: X.outer) (hf : X.env.frame = some X.env.locals) (hex : X.ex = []) : Inv (X.suite a (X.pn ++ pins)) [] σ (upd H a (exv a C dd)) s := by
  obtain ⟨oe, at_, zc, ⟨vs, data⟩, S⟩ := c.suite hs hf
  have J := c.inv
  obtain ⟨B, sI, JI, nb, _, fl, z, _, _⟩ := c
  have off : a ∉ frs X.stack := by
    rw [hs]
    intro m
    obtain ⟨_, o, e, nf⟩ := fl.2.2.1.mem m
    exact nf vs (by rw [← Option.some.inj (at_.symm.trans e)]; exact data)
  have newI : sI.heap.get? a = none := by
    cases e : sI.heap.get? a with
    | none => rfl
    | some o => exact absurd (nb a o e off) (by rw [fl.2.1]; simp)
  have new0 : ∀ b o, X.s_0.heap.get? b = some o → b ≠ a := by
    rintro b o e rfl
    obtain ⟨o', e'⟩ := JI.base.there b o e (by rw [hex]; simp)
    rw [newI] at e'; cases e'
  have ne : ∀ {b : Addr} {u : HO}, H b = some u → b ≠ a := fun {b u} e q => by rw [q, z] at e; cases e
  have was := S.pin (a, oe) (List.mem_append_left _ (.head _))
  refine ⟨J.ok.suite a _, S.os, S.bare, ⟨J.base.keep, J.base.slot, fun b o e n x => ?_, J.base.there, fun b xs e => ?_, fun b o u e => ?_, fun b ps e => ?_⟩, S.loc, S.cell, ?_, fun x c' e => ?_, fun p hp => ?_, J.hok.laidN (fun _ _ y => y) z (exv_ok at_ zc.1 zc.2 data), S.len⟩
  · rw [upd_ne (new0 b o e)]; exact J.base.free b o e n x
  · have q := J.base.tups b xs e
    rw [upd_ne (ne q)]; exact q
  · have q := J.base.frzs b o u e
    rw [upd_ne (ne q)]; exact q
  · obtain ⟨more, q⟩ := J.base.tbls b ps e
    exact ⟨more, by rw [upd_ne (ne q)]; exact q⟩
  · have q : X.env.locals ≠ a := fun e => was.2.2.1 e.symm
    show upd H a _ X.env.locals = none
    rw [upd_ne q]; exact J.free
  · have q : c' ≠ a := by
      rintro rfl
      obtain ⟨v, o, e1, e2⟩ := S.cell x c' e
      rw [at_] at e1; cases e1
      exact was.2.2.2.2 _ e2
    rw [upd_ne q]; exact S.freeC x c' e
  · have hp' : p ∈ X.pn ++ pins := by simpa using hp
    have q := J.pin p hp'
    have q0 := (JI.pin p hp').1
    have n : p.1 ≠ a := fun e => by rw [e, newI] at q0; cases q0
    exact ⟨q.1, by rw [upd_ne n]; exact q.2.1, q.2.2⟩
/-- behind the suite -/
theorem unsuite_ {σ' : L2.St} {H' : Hp} (S : Inv (X.suite a (X.pn ++ pins)) [] σ' H' s) (ok : X.Ok) : Inv X pins σ' H' s :=
  ⟨ok, S.os, S.bare, S.base, S.loc, S.cell, S.free, S.freeC, fun p hp => S.pin p (List.mem_append_left _ hp), S.hok, S.len⟩
/-- it comes to rest -/
theorem Caught.rest {M : Model} {A : Around} {E : Value → Shared → Prop} {Q : Unit → Shared → Prop} (c : Caught X pins a cls d σ H s) (q : ∀ h', Caught X pins a cls d σ H { s with heap := h' } → Q () { s with heap := h' }) : wpAny M A (setFlight (.ref a) none) Q E s := by
  obtain ⟨B, sI, J, nb, up, fl, z, os, ag⟩ := c
  exact HandSPX.lands_againZ fl fun h' fl' up' => q h' ⟨B, sI, J, nb, up.trans up', fl', z, os, ag⟩
/-- it goes on -/
theorem Caught.on {W : WX} {Q : Flow → Shared → Prop} (c : Caught X pins a cls d σ H s) (hs : X.stack = X.env :: X.outer) (hf : X.env.frame = some X.env.locals) (tk : Takes X W) (w : W cls d σ H) : wpAny (model X.prog X.w) X.A (handleBy (.ref a) X.env []) Q X.xe s := by
  refine wpAny_handleBy_nil ?_
  obtain ⟨B, sI, J, nb, up, fl, z, os, ag⟩ := c
  obtain ⟨_, _, _, oe, vs, T, _, _, at_, _, data, second, _⟩ := id fl
  unfold PySem.passOn
  refine wpAny_bind (wpAny_field at_ data second ?_)
  have some_ : ¬ ((Value.ref T == Value.none) = true) := by simp
  rw [if_neg some_]
  have go : wpAny (model X.prog X.w) X.A (setFlight (.ref a) (some X.env.locals)) (fun _ s4 => wpAny (model X.prog X.w) X.A (throw (.ref a) : Sem Flow) Q X.xe s4) X.xe s := by
    refine HandSPX.setFlight_upZ fl fun h4 held up4 => wpAny_throw (tk _ _ ?_)
    exact ⟨a, B, sI, pins, σ, H, cls, d, rfl, J, nb, up.trans up4, .inr (.inr (hs ▸ held)), z, os, ag, w⟩
  rw [← hf] at go
  first
    | exact wpAny_bind (wpAny_pure (wpAny_bind go))
    | exact wpAny_bind go
/-- out of the try's body -/
theorem caught_of {xe : Value → Shared → Prop} {W : WX} {u : Value} {Q : Unit → Shared → Prop} {E : Value → Shared → Prop} (ok : X.Ok) (hs : X.stack = X.env :: X.outer) (hf : X.env.frame = some X.env.locals) (x : XE (X.tr (X.pn ++ pins) xe) W u s)
    (q : ∀ a cls d σ H s3, u = .ref a → W cls d σ H → Caught X pins a cls d σ H s3 → Q () s3) : wpAny (model X.prog X.w) X.A (noteFrame u X.env) (fun _ s3 => wpAny (model X.prog X.w) X.A (setFlight u none) Q E s3) E s := by
  obtain ⟨a, B, sI, _, σ, H, cls, d, rfl, J, nb, up, sky, z, os, ag, w⟩ := x
  have sky2 : Sky B (X.env :: X.outer) a (Zc cls d) X.env.locals s.heap := hs ▸ sky
  have fr : X.A.frames = some (X.env :: X.outer) := hs ▸ ok.frames
  refine Sky.land Zc.steady fr hf sky2 fun h3 fl up3 => q a cls d σ H _ rfl w ⟨B, sI, J.ofTry ok, nb, up.trans up3, fl, z, os, ag⟩
end
/-! ### except (A, B, C) as n -/
def wTup (K : PySem.W.Frag) (cs : List Value) (i : Nat) (ts : TS) (Wout : WX) (De : Ends) : WX := fun cls d σ H =>
  ∃ b, PySem.W.exmAny K cls cs = some b ∧ (if b = true then ∃ C dd : Addr, cls = .ref C ∧ d = some dd ∧ ∀ a, H a = none → ts ⟨fun σ' => De.nx (σ'.set i none), De.rt, fun σ' => De.bk (σ'.set i none), fun σ' => De.ct (σ'.set i none)⟩ (σ.set i (some (.ref a))) (upd H a (exv a C dd)) else Wout cls d σ H)
section
variable {X : Cx} {i : Nat} {n x1 x2 x3 : Str} {c1 c2 c3 : Value} {body suite : List Stmt} {b₀ : Stmt} {q1 q2 q3 tp pos pos' : Pos} {kk : Nat} {tb : WX → TS} {ts : TS} {Wout : WX}
/-- the three classes, side by side in a new tuple -/
theorem tuple3 {pins : List (Addr × Obj)} {σ : L2.St} {H : Hp} {s : Shared} {M : Value → Shared → Prop} {E : Value → Shared → Prop} (I : Inv X pins σ H s) (hc1 : Names X x1 c1) (hc2 : Names X x2 c2) (hc3 : Names X x3 c3)
    (q : M (.ref s.heap.objs.size) { s with heap := s.heap.push { cls := .type "tuple", data := .seq [c1, c2, c3].toArray } }) : wpAny (model X.prog X.w) X.A (eval (.Tuple [.Name x1 q1, .Name x2 q2, .Name x3 q3] kk tp) X.env) M E s := by
  have one : ∀ {x : Str} {c : Value} {p : Pos} {M' : Value → Shared → Prop}, Names X x c → M' c s → wpAny (model X.prog X.w) X.A (eval (.Name x p) X.env) M' E s := by
    rintro x c p M' ⟨g1, g2, g3⟩ hM
    rcases g3 with g | ⟨g, g', g''⟩
    · exact ld_glob I g1 g hM g2
    · exact ld_blt I g1 g g' hM g'' g2
  refine wpAny_Tuple_spliced (spliced_more (one hc1 ?_))
  refine spliced_more (one hc2 ?_)
  refine spliced_more (one hc3 ?_)
  exact spliced_none ⟨by rw [sizeLine_eq]; show 3 ≤ 16777216; decide, q⟩
theorem ps_try_tup3 (hs : X.stack = X.env :: X.outer) (hf : X.env.frame = some X.env.locals) (hex : X.ex = []) (hN : X.N.Nodup) (hi : X.N[i]? = some n) (hln : X.env.kindOf n = some .local) (hc1 : Names X x1 c1) (hc2 : Names X x2 c2) (hc3 : Names X x3 c3) (tk : Takes X Wout)
    (hb : ∀ (W : WX) (pn : List (Addr × Obj)) (xe : Value → Shared → Prop), Takes (X.tr pn xe) W → PassesOwn (model X.prog X.w) X.A X.env xe → PSs (X.tr pn xe) body (tb W))
    (hsu : ∀ (a : Addr) (pn : List (Addr × Obj)), PSs (X.suite a pn) (b₀ :: suite) ts) :
    PS X (.Try body [.ExceptHandler (some (.Tuple [.Name x1 q1, .Name x2 q2, .Name x3 q3] kk tp)) (some n) (b₀ :: suite) pos'] [] [] pos) (fun De σ H => tb (wTup X.K [c1, c2, c3] i ts Wout De) De σ H) := by
  constructor
  intro pins s σ H De I h
  have ok := I.ok
  apply wpAny_Try_except
  let hd := [ExceptHandler.ExceptHandler (some (.Tuple [.Name x1 q1, .Name x2 q2, .Name x3 q3] kk tp)) (some n) (b₀ :: suite) pos']
  let xe : Value → Shared → Prop := fun e s₁ => wpAny (model X.prog X.w) X.A (noteFrame e X.env) (fun _ s₂ => wpAny (model X.prog X.w) X.A (setFlight e none) (fun _ s₃ => wpAny (model X.prog X.w) X.A (handleBy e X.env hd) (SP X pins De) X.xe s₃) X.xe s₂) X.xe s₁
  have takes : Takes (X.tr (X.pn ++ pins) xe) (wTup X.K [c1, c2, c3] i ts Wout De) := by
    intro u s' x
    refine caught_of (pins := pins) ok hs hf x fun a cls d σ' H' s3 eu ⟨b, told, w⟩ c => ?_
    subst eu
    obtain ⟨oe, at_, zc, data, S⟩ := c.suite hs hf
    refine wpAny_handleBy_cons (codeAny_handlers_test (tuple3 (X := X.suite a ((a, oe) :: (X.pn ++ pins))) S hc1 hc2 hc3 ?_)) (by rintro ⟨⟩)
    have grown : ∀ b o, s3.heap.get? b = some o → (s3.heap.push { cls := .type "tuple", data := .seq [c1, c2, c3].toArray }).get? b = some o := fun b o e => Heap.get?_push_of_some _ e
    have c' := c.grow grown
    have typ : PySem.W.Looks (model X.prog X.w) (s3.heap.push { cls := .type "tuple", data := .seq [c1, c2, c3].toArray }) (typeOf (.ref a)) cls := fun A Q E s k q => wpAny_typeOf_ref (k _ _ (grown _ _ at_)) (zc.1 ▸ q)
    refine (PySem.W.exm_tup3 (M := model X.prog X.w) c'.inv.kIn typ (Heap.get?_push_at rfl rfl) told).here ?_
    cases b with
    | false =>
      have w : Wout cls d σ' H' := w
      exact c'.on hs hf tk w
    | true =>
      refine codeAny_handlers_suite_as (c'.rest fun h4 c4 => ?_)
      rw [if_pos rfl] at w
      obtain ⟨C, dd, rfl, rfl, w⟩ := w
      refine store_ok (X := X.suite a (X.pn ++ pins)) (v := .ref a) (c4.value hs hf hex) hN hi (.inl hln) rfl (fun s5 S5 => ?_) (.inr hln)
      refine wpAny_mono ((hsu a (X.pn ++ pins)).run [] s5 _ _ _ S5 (w a c4.none_)) (fun f s6 out => ?_) (fun _ _ z => z.elim)
      have gone : ∀ {σ6 : L2.St} {H6 : Hp} {G : Shared → Prop}, Inv (X.suite a (X.pn ++ pins)) [] σ6 H6 s6 → (∀ s7, Inv X pins (σ6.set i none) H6 s7 → G s7) → wpAny (model X.prog X.w) X.A (do bindName X.env n .none; unbindBehindTheSuite X.env n pos') (fun _ => G) X.xe s6 :=
        fun S6 g => gone_ok (unsuite_ S6 ok) hN hi hln g
      cases f
      · obtain ⟨σ6, H6, S6, r⟩ := out; exact gone S6 fun s7 J7 => ⟨_, _, J7, r⟩
      · obtain ⟨σ6, H6, S6, r⟩ := out; exact gone S6 fun s7 J7 => ⟨_, _, J7, r⟩
      · obtain ⟨σ6, H6, S6, r⟩ := out; exact gone S6 fun s7 J7 => ⟨_, _, J7, r⟩
      · obtain ⟨v6, σ6, H6, S6, rel, r⟩ := out; exact gone S6 fun s7 J7 => ⟨_, _, _, J7, rel, r⟩
  refine wpAny_mono ((hb _ (X.pn ++ pins) xe takes PassesOwn.looking).run [] s σ H De (I.toTry _) h) (fun f s1 out => ?_) fun _ _ z => z
  cases f
  · obtain ⟨σ', H', J, r⟩ := out; exact wpAny_execs_nil ⟨σ', H', J.ofTry ok, r⟩
  · obtain ⟨σ', H', J, r⟩ := out; exact ⟨σ', H', J.ofTry ok, r⟩
  · obtain ⟨σ', H', J, r⟩ := out; exact ⟨σ', H', J.ofTry ok, r⟩
  · obtain ⟨v, σ', H', J, rel, r⟩ := out; exact ⟨v, σ', H', J.ofTry ok, rel, r⟩
end
end Dv

/-! DwD: defs that may be called within a suite too: nothing in their bodies asks whether an error is handled, and none is raised. -/
namespace Dv
open PySem PySem.Spec PyProof.Rows L2
/-- room, whatever is handled -/
structure RoomF (k : Nat) (A : Around) : Prop where
  deep : A.depth + 3 * k + 5 < recursionLimit
  many : A.units + 16 * k + 200 < cLine
theorem RoomF.of {k : Nat} {A : Around} (r : Room k A) : RoomF k A := ⟨r.dp, r.un⟩
theorem RoomF.inner {k : Nat} {A : Around} (r : RoomF (k + 1) A) (env : Env) : RoomF k (A.deeper env) := by
  obtain ⟨a, b⟩ := r
  constructor
  · show A.depth + 1 + 3 * k + 5 < _; omega
  · show A.units + 3 + 16 * k + 200 < _; omega
/-- the body's context -/
def cxF (P : Program) (w : World) (K : PySem.W.Frag) (mg : Str → Option Value) (base : Heap) (N : List Str) (qual : Str) (scope : Scope) (f : Addr) (cd : Value) (A : Around) (outer : List Env) (s : Shared) (H : Hp) : Cx :=
  { cxOf CX0 P w K mg base N qual scope f cd A outer s H (fun _ _ _ => False) with calm := false, xe := fun _ _ => False }
structure FnF (P : Program) (w : World) (K : PySem.W.Frag) (mg : Str → Option Value) (base : Heap) (k : Nat) (f : Addr) (fd : FuncData) (ps : List Str) (sp : List V → Hp → VK → Prop) : Prop where
  len : ∀ vs H Q, sp vs H Q → vs.length = ps.length
  run : ∀ (A : Around) (outer : List Env) (s : Shared) (H : Hp) (args : Args) (us : List Value) (vs : List V) (Q : VK), RoomF k A → Env0 P w K mg base A outer s H → BindsTo s fd args (ps.zip us) → Vals vs us → sp vs H Q →
    codeAny (model P w) A (.call (.ref f) args) (fun r s' => ∃ u, r = .ok (.ret u) ∧ CE outer P w H s Q u s') s
section
variable {P : Program} {w : World} {K : PySem.W.Frag} {mg : Str → Option Value} {base : Heap} {x qual : Str} {params : Arguments} {body : List Stmt} {scope : Scope} {f : Addr} {fd : FuncData} {N ps : List Str} {k : Nat} {sp : List V → Hp → VK → Prop}
theorem fnF_of (F : FunD K x qual params body scope [] [] f fd) (S : FnScope N ps scope) (len : ∀ vs H Q, sp vs H Q → vs.length = ps.length)
    (hbody : ∀ (cdv : Value) (A : Around) (outer : List Env) (s : Shared) (H : Hp) (vs : List V) (Q : VK), RoomF k (A.deeper (envOfC qual scope s.heap.objs.size f cdv)) → sp vs H Q →
      ∃ t, PSs (cxF P w K mg base N qual scope f cdv A outer s H) body t ∧ t { nx := fun _ H' => Q .non H', rt := Q } (L2.start N vs) H) : FnF P w K mg base (k + 1) f fd ps sp := by
  obtain ⟨oc, od, dV, kV, doc, pm, an, cdv, ct, osl, rfl, lk, hcd, _, _⟩ := F.ex
  refine ⟨len, fun A outer s H args us vs Q room e0 bind rel told => ?_⟩
  have many := len _ _ _ told
  have stays : ∀ b o, base.get? b = some o → s.heap.get? b = some o := fun b o e => (e0.bs b o e).1
  have kin : K.In s.heap := e0.mod.kin.keeps stays
  refine codeAny_call_function (by have := room.deep; omega) (kin _ _ lk) rfl S.co S.gen rfl (PySem.W.codeRec_of kin hcd) (bind _ _ _ _ ?_)
  have kinds : ∀ y ∈ ps.zip us, scope.names.lookup y.1 = some .local ∨ (scope.names.lookup y.1 = some .cell ∧ ((cellsFrom (s.heap.objs.size + 1) scope.names []).lookup y.1).isSome = true) := by
    rintro ⟨n, v⟩ hy
    exact (S.par n (List.of_mem_zip hy).1).imp id fun q => ⟨q, PySem.W.cellsFrom_some _ _ _ (.inl q)⟩
  refine wpAny_newFunctionEnv_cells S.kind kinds fun env he s1 inCall => ?_
  subst he
  refine ⟨(e0.mod.nolimit.keeps stays).keeps inCall.toInCall.keep, codeAny_func ?_⟩
  obtain ⟨t, derived, reads⟩ := hbody cdv A outer s H vs Q (room.inner _) told
  have e1 : Env0 P w K mg base { A with handled := none } outer s H := ⟨e0.frames, e0.mod, e0.bs, e0.bsz, e0.funs, e0.frf, e0.hok, e0.bare⟩
  have I0 := inv_start (CX := CX0) (N := N) (qual := qual) (f := f) (cd := cdv) (E := fun _ _ _ => False) S (show ({ A with handled := none } : Around).handled = none from rfl) e1 many rel inCall
  have ok0 := I0.ok
  have ok : (cxF P w K mg base N qual scope f cdv A outer s H).Ok :=
    ⟨ok0.mod, ok0.kind, ok0.glob, ok0.blt, ok0.above, ok0.inj, ok0.has, ok0.cab, nofun, Around.frames_deeper e0.frames, ok0.stk, ok0.exf, ok0.bs, ok0.bsz, ok0.noex, ok0.exfs, ok0.funs, ok0.frf⟩
  have I : Inv (cxF P w K mg base N qual scope f cdv A outer s H) [] (L2.start N vs) H s1 := ⟨ok, I0.os, I0.bare, I0.base, I0.loc, I0.cell, I0.free, I0.freeC, I0.pin, I0.hok, I0.len⟩
  have back : ∀ {σ' : L2.St} {H' : Hp} {v : V} {u : Value} {s' : Shared}, Inv (cxF P w K mg base N qual scope f cdv A outer s H) [] σ' H' s' → RelV v u → Q v H' → CE outer P w H s Q u s' :=
    fun J rv q => ⟨_, _, J.os, J.bare, J.base, J.hok, rv, q⟩
  refine wpAny_mono (derived.run [] s1 _ H _ I reads) (fun fl s' out => ?_) fun e s' no => no.elim
  cases fl
  · obtain ⟨_, _, J, q⟩ := out; exact ⟨_, rfl, back (v := .non) J rfl q⟩
  · obtain ⟨_, _, _, q⟩ := out; exact q.elim
  · obtain ⟨_, _, _, q⟩ := out; exact q.elim
  · obtain ⟨_, _, _, J, rv, q⟩ := out; exact ⟨_, rfl, back J rv q⟩
end
/-- f(e, ..) anywhere -/
theorem pe_callF {X : Cx} {k : Nat} {f : Addr} {fd : FuncData} {ps : List Str} {sp : List V → Hp → VK → Prop} {x : Str} {p pos : Pos} {e : Expr} {es : List Expr} {t : TA} (F : FnF X.prog X.w X.K X.mg X.base k f fd ps sp) (room : RoomF k X.A) (hg : Gl X x) (hm : X.mg x = some (.ref f)) (hk : PySem.W.keepIn X.K (.ref f) = true) (hb : Binds X.K fd ps [])
    (ha : PA X (e :: es) t) (hdb : (x == ("__debug__" : Str)) = false := by decide) (first : starEach (e :: es) X.env = (false, eval e X.env) :: starEach es X.env := by rfl) (plain : (backTo pos (starEach es X.env)).any (·.1) = false := by rfl) :
    PE X (.Call (.Name x p) (e :: es) [] pos) (fun σ H Q => t σ H fun vs H1 => sp vs H1 Q) := by
  constructor
  intro pins s σ H Q I h
  apply wpAny_Call_Name_kw (ld_glob I hg hm ?_ hdb)
  apply PySem.W.callWith_K (h₀ := X.base) I.ok.mod.kin hk ?_ first plain
  refine thn (ha.run pos pins s σ H _ I h) fun us s1 ⟨vs, H1, J, rel, told⟩ => ⟨J.kIn, ?_⟩
  have all : (us ++ ([] : List Value)).length = ps.length := by
    rw [List.append_nil, ← rel.length]; exact F.len _ _ _ told
  have bound := hb s1 us J.kIn all
  rw [List.append_nil] at bound
  refine wpAny_call (codeAny_mono (F.run X.A X.stack s1 H1 ⟨us, []⟩ us vs Q room J.env0 bound rel told) fun r s' out => ?_)
  obtain ⟨u, rfl, ce⟩ := out
  exact J.after ce
end Dv

/-! DwE: own errors at the level of deep values: their fields, their making, raise. -/
namespace Dv
open PySem PySem.Spec PyProof.Rows L2
theorem repF_get {T : Tx} {ρ : List Addr} {G : Hp} {f : Str} {d : D} : ∀ {fs : List (Str × D)} {vf : List (Str × V)}, RepF T ρ G vf fs → fs.lookup f = some d → ∃ v, vf.lookup f = some v ∧ Rep T ρ G v d
  | [], _, _, e => by cases e
  | (g, d') :: fs, vf, h, e => by
    unfold RepF at h
    obtain ⟨v, r, rfl, q, t⟩ := h
    unfold List.lookup at e ⊢
    by_cases hg : (f == g) = true
    · rw [hg] at e ⊢; cases e; exact ⟨v, rfl, q⟩
    · rw [Bool.eq_false_iff.mpr hg] at e ⊢; exact repF_get t e
/-- of these classes' errors the field f is read plainly -/
structure ErrF (K : PySem.W.Frag) (mg : Str → Option Value) (cs : List Str) (f : Str) : Prop where
  ok : ∀ c ∈ cs, ∃ C : Addr, mg c = some (.ref C) ∧ XfC K C ∧ PySem.W.findIn K (.ref C) f = some none
def fAttr (cs : List Str) (f : Str) : D → Mu → Res D
  | .exn c fs, μ => if c ∈ cs then (match fs.lookup f with
    | some d => ret d μ
    | none => none) else none
  | _, _ => none
def dAttr (cs : List Str) (f : Str) (m : DEx) : DEx := fun env μ => bindR (m env μ) fun d μ => fAttr cs f (hold d) μ
section
variable {X : Cx} {B : Bs} {W : WX} {e : Expr} {m : DEx} {p pos : Pos}
theorem exn_inv {T : Tx} {ρ : List Addr} {G : Hp} {σ : L2.St} {env : DEnv} {x : V} {c : Str} {fs : List (Str × D)} (h : HeldR T ρ G σ env x (.exn c fs)) : ∃ a C d vf, x = .ref a ∧ T.mg c = some (.ref C) ∧ G a = some (exv a C d) ∧ G d = some (.xd vf) ∧ RepF T ρ G vf fs := by
  have h : Rep T ρ G x (.exn c fs) := h
  unfold Rep at h; exact h
theorem de_attr {cs : List Str} {f : Str} (he : DE X B W e m) (F : ErrF X.K X.mg cs f) (plain : attributeBase e f X.env (eval e X.env) = eval e X.env := by rfl) : DE X B W (.Attribute e f pos) (dAttr cs f m) := by
  refine ⟨peImp (pe_xv he.run plain) fun σ H Q ⟨ρ, G, env, μ, R, k⟩ => ?_⟩
  refine rd_then (f := fun d μ => fAttr cs f (hold d) μ) R k fun ρ1 G1 H1 μ1 x d s p R1 hx k1 => ?_
  generalize hold d = d at hx k1
  unfold fAttr at k1
  split at k1
  · split at k1
    · rename_i hc
      split at k1
      · rename_i d' hl
        obtain ⟨a, C, dd, vf, rfl, hm, g1, g2, rf⟩ := exn_inv hx
        obtain ⟨C', hm', T, own⟩ := F.ok _ hc
        have hm : X.mg _ = some (.ref C) := hm
        rw [hm] at hm'; cases hm'
        obtain ⟨v, hv, rv⟩ := repF_get rf hl
        exact ⟨a, C, dd, vf, v, rfl, T, own, R1.gh _ _ g1, R1.gh _ _ g2, hv, k1.here R1 (.ofR rv)⟩
      · exact k1.elim
    · exact k1.elim
  · exact k1.elim
/-- what C(v) of one field promises -/
def spErr1 (C : Addr) (fld code : Str) : Sp := fun vs H Q E => ∃ (a : Addr) (v : V), vs = [.ref a, v] ∧ H a = some (exo a C none) ∧ ∀ dx, H dx = none → dx ≠ a →
  Q .non (upd (upd (upd H dx (exd dx [("code", .str code)])) a (exo a C (some dx))) dx (exd dx [(fld, v), ("code", .str code)]))
/-- such a class by its name -/
structure MkErr (P : Program) (w : World) (K : PySem.W.Frag) (mg : Str → Option Value) (base : Heap) (c fld code : Str) (k : Nat) : Prop where
  ex : ∃ (C fI : Addr) (fd : FuncData) (ps : List Str) (b : EBase), mg c = some (.ref C) ∧ OexN K C b ∧ PySem.W.findIn K (.ref C) "__init__" = some (some (.ref fI)) ∧ PySem.W.typeIn K (.ref fI) = some (.type "function") ∧ Binds K fd ps [] ∧ FnOk P w K mg base (L2.CX P w) k fI fd ps (spErr1 C fld code)
theorem err1_step {C : Addr} {fld code : Str} {v : V} {H1 : Hp} {Qx : XK} (hq : ∀ d, H1 d = none → Qx (.ref C) (some d) (upd H1 d (.xd [(fld, v), ("code", .str code)]))) :
    [v].length ≤ 1000 ∧ ∀ a, H1 a = none → spErr1 C fld code (.ref a :: ([v] ++ [])) (upd H1 a (exo a C none))
      (fun u H2 => u = .non ∧ ∃ (d : Addr) (fs : List (Str × V)), H2 a = some (exo a C (some d)) ∧ H2 d = some (exd d fs) ∧ H1 d = none ∧ Qx (.ref C) (some d) (upd (del H2 a) d (.xd fs))) (fun _ _ _ => False) := by
  refine ⟨by show 1 ≤ 1000; decide, fun a ha => ⟨a, v, rfl, upd_same, fun dx n ne => ⟨rfl, dx, [(fld, v), ("code", .str code)], ?_, upd_same, ?_, ?_⟩⟩⟩
  · rw [upd_ne (Ne.symm ne), upd_same]
  · rw [upd_ne ne] at n; exact n
  · have n' : H1 dx = none := by rw [upd_ne ne] at n; exact n
    have e : upd (del (upd (upd (upd (upd H1 a (exo a C none)) dx (exd dx [("code", .str code)])) a (exo a C (some dx))) dx (exd dx [(fld, v), ("code", .str code)])) a) dx (.xd [(fld, v), ("code", .str code)]) = upd H1 dx (.xd [(fld, v), ("code", .str code)]) := by
      funext b
      by_cases h1 : b = dx
      · rw [h1, upd_same, upd_same]
      · rw [upd_ne h1, upd_ne h1]
        by_cases h2 : b = a
        · rw [h2, del_same, ha]
        · rw [del_ne h2, upd_ne h1, upd_ne h2, upd_ne h1, upd_ne h2]
    rw [e]; exact hq dx n'
theorem nox_ : Passes (L2.CX X.prog X.w) X (fun _ _ _ => False) := by
  rintro pins σ H s e s' I ⟨_, _, _, _, _, _, _, _, _, _, _, _, z⟩
  exact z.elim
theorem repF2 {T : Tx} {ρ : List Addr} {G : Hp} {f g : Str} {x y : V} {a b : D} (h : Rep T ρ G x a) (h' : Rep T ρ G y b) : RepF T ρ G [(f, x), (g, y)] [(f, a), (g, b)] := by
  unfold RepF
  refine ⟨x, _, rfl, h, ?_⟩
  unfold RepF
  refine ⟨y, _, rfl, h', ?_⟩
  unfold RepF; rfl
/-- raise C(e) -/
def dRaise (c fld code : Str) (n : DEnv → Mu → Res (List D)) : DSt := fun env μ => bindS env (n env μ) fun ds μ => match ds with
  | [d] => if nobor d = true then some (.exc ⟨c, [(fld, d), ("code", .str code)]⟩, env, μ) else none
  | _ => none
theorem ds_raise {c fld code : Str} {k : Nat} {n : DEnv → Mu → Res (List D)} {pos' : Pos} (E : MkErr X.prog X.w X.K X.mg X.base c fld code k) (hc : X.calm = true) (tk : Takes X W) (hr : Room (k + 1) X.A) (hg : Gl X c) (ha : DA X B W [e] n) (hdb : (c == ("__debug__" : Str)) = false := by decide) (he : starEach [e] X.env = (false, eval e X.env) :: starEach [] X.env := by rfl) :
    DS X B W (.Raise (some (.Call (.Name c p) [e] [] pos)) none pos') (dRaise c fld code n) := by
  obtain ⟨C, fI, fd, ps, b, hm, T, iC, tI, hb, F⟩ := E.ex
  refine ⟨psImp (ps_raise hc tk (pmk_n T iC tI F hr hb nox_ hg hm ha.run hdb he rfl)) fun De σ H ⟨ρ, G, env, μ, R, k⟩ => ?_⟩
  refine ⟨ρ, G, env, μ, R, (KS.bind k).imp fun ρ1 G1 H1 μ1 ds s p R1 k1 vs hvs => ?_⟩
  split at k1
  · rename_i d
    split at k1
    · rename_i hd
      obtain ⟨v, rfl, hv⟩ := hreps1 hvs
      refine err1_step (C := C) (fld := fld) (code := code) (v := v) (H1 := H1) (Qx := fun cls d H' => W cls d σ H') fun dd n => ?_
      have g1 := (R1.fresh_ n).1
      exact k1 σ ρ1 _ _ _ _ (same_upd g1) (.refl _) (R1.alloc n) ⟨C, dd, _, rfl, hm, rfl, upd_same, repF2 ((hv.rep hd).mono (same_upd g1) (.refl _)) rep_str⟩
    · exact k1.elim
  · exact k1.elim
/-! ### errors without fields -/
def spErr0 (C : Addr) (code : Str) : Sp := fun vs H Q E => ∃ a : Addr, vs = [.ref a] ∧ H a = some (exo a C none) ∧ ∀ dx, H dx = none → dx ≠ a → Q .non (upd (upd H dx (exd dx [("code", .str code)])) a (exo a C (some dx)))
structure MkErr0 (P : Program) (w : World) (K : PySem.W.Frag) (mg : Str → Option Value) (base : Heap) (c code : Str) (k : Nat) : Prop where
  ex : ∃ (C fI : Addr) (fd : FuncData) (ps : List Str) (b : EBase), mg c = some (.ref C) ∧ OexN K C b ∧ PySem.W.findIn K (.ref C) "__init__" = some (some (.ref fI)) ∧ PySem.W.typeIn K (.ref fI) = some (.type "function") ∧ Binds K fd ps [] ∧ FnOk P w K mg base (L2.CX P w) k fI fd ps (spErr0 C code)
theorem repF1 {T : Tx} {ρ : List Addr} {G : Hp} {f : Str} {x : V} {a : D} (h : Rep T ρ G x a) : RepF T ρ G [(f, x)] [(f, a)] := by
  unfold RepF
  refine ⟨x, _, rfl, h, ?_⟩
  unfold RepF; rfl
end
end Dv

/-! DwF: an own error class of one field, by the text of its __init__. -/
namespace Dv
open PySem PySem.Spec PyProof.Rows L2
section
variable {P : Program} {w : World} {K : PySem.W.Frag} {mg : Str → Option Value} {base : Heap}
theorem mkErr_of {c fld code prm qual : Str} {C fI : Addr} {fd : FuncData} {params : Arguments} {scope : Scope} {k : Nat} {p0 p1 p2 p3 p4 q0 q1 q2 q3 q4 r1 r2 r3 r4 : Pos} {txt : Str} {j j2 : Nat} {pl : Sem Bool} {ar : Arg} {b : EBase}
    (hm : mg c = some (.ref C)) (T : SupC K C C b) (no1 : PySem.W.findIn K (.ref C) "code" = some none) (no2 : PySem.W.findIn K (.ref C) fld = some none) (iC : PySem.W.findIn K (.ref C) "__init__" = some (some (.ref fI))) (tI : PySem.W.typeIn K (.ref fI) = some (.type "function"))
    (F : SupD P K "__init__" qual params [.Expr (.Call (.Attribute (.Call (.Name "super" p0) [] [] p1) "__init__" p2) [.Constant (.str txt) j p3] [] p4) q0, .Assign [.Attribute (.Name "self" q1) "code" q2] (.Constant (.str code) j2 q3) q4, .Assign [.Attribute (.Name "self" r1) fld r2] (.Name prm r3) r4] scope fI fd C)
    (S : SupScope ["self", prm] ["self", prm] scope) (hpar : (params.posonlyargs ++ params.args).head? = some ar) (har : ar.arg = "self") (hmg : mg "super" = none) (htop : (P.main.scope.names.lookup ("super" : Str)).isSome = false)
    (he : ∀ env : Env, eval (.Call (.Attribute (.Call (.Name "super" p0) [] [] p1) "__init__" p2) [.Constant (.str txt) j p3] [] p4) env = (do
      let ov ← attributeBase (.Call (.Name "super" p0) [] [] p1) "__init__" env (eval (.Call (.Name "super" p0) [] [] p1) env)
      standAt p2.atName
      let (f', first) ← holding [ov] (getMethod ov "__init__" pl)
      callWith p4 f' first (backTo p4 (starEach [.Constant (.str txt) j p3] env)) []))
    (s1 : ∀ env : Env, swapsWith (.Constant (.str code) j2 q3) (some (.Attribute (.Name "self" q1) "code" q2)) q4.line env = pure false) (s2 : ∀ env : Env, swapsWith (.Name prm r3) (some (.Attribute (.Name "self" r1) fld r2)) r4.line env = pure false)
    (d1 : (prm == Str.ofString "__debug__") = false) (d2 : (prm == Str.ofString "__classdict__") = false)
    (hb : Binds K fd ["self", prm] []) : MkErr P w K mg base c fld code (k + 1) := by
  refine ⟨C, fI, fd, ["self", prm], b, hm, T.oex, iC, tI, hb, ?_⟩
  have ps : scope.names.lookup ("self" : Str) = some .local := S.par _ (.head _)
  have pp : scope.names.lookup prm = some .local := S.par _ (.tail _ (.head _))
  refine sup_ok (N := ["self", prm]) (D := C) F S hpar (by rw [har]; exact ps) (by rw [har]; rfl) hmg htop (fun vs H Q E h => ?_) (fun vs H Q E h => ?_) he fun cda cc A outer s H vs Q E hr h => ?_
  · obtain ⟨a, v, rfl, _⟩ := h; rfl
  · obtain ⟨a, v, rfl, ea, _⟩ := h
    exact ⟨a, C, [v], b, rfl, ea, T⟩
  · obtain ⟨a, v, rfl, ea, q⟩ := h
    refine ⟨tSeq (tSt K "code" (tVar 0) (tC (.str code))) (tSt K fld (tVar 0) (tVar 1)), ?_, ?_⟩
    · exact pss_cons (ps_st (pv 0 rfl (.inl ps) rfl rfl) pe_str (s1 _)) (pss_one (ps_st (pv 0 rfl (.inl ps) rfl rfl) (pv 1 rfl (.inl pp) d1 d2) (s2 _)))
    · refine ⟨.ref a, rfl, a, C, b, rfl, T.oex, no1, .inl ⟨ea, fun dx n ne => ?_⟩⟩
      refine ⟨v, rfl, .ref a, rfl, a, C, b, rfl, T.oex, no2, .inr ⟨dx, [("code", .str code)], upd_same, ?_, by show 1 ≤ 900; decide, q dx n ne⟩⟩
      rw [upd_ne ne, upd_same]
end
end Dv

/-! DwG: try .. except (A, B, C) as n, at the level of deep values. -/
namespace Dv
open PySem PySem.Spec PyProof.Rows L2
/-- the errors of these classes are caught -/
structure Catch (K : PySem.W.Frag) (mg : Str → Option Value) (vs : List Value) (cs : List Str) : Prop where
  ok : ∀ c ∈ cs, ∃ C : Addr, mg c = some (.ref C) ∧ PySem.W.exmAny K (.ref C) vs = some true
def behind (i : Nat) : RS → RS
  | some (.val (.ret d), env, μ) => some (.val (.ret d), env, μ)
  | some (.val f, env, μ) => some (.val f, env.set i .no, μ)
  | _ => none
def dTry (cs : List Str) (i : Nat) (m ms : DSt) : DSt := fun env μ => match m env μ with
  | some (.exc x, env', μ') => if x.cls ∈ cs then behind i (ms (env'.set i (.v (.exn x.cls x.fs))) μ') else none
  | r => r
section
variable {X : Cx} {B : Bs} {Wout : WX} {i : Nat} {n x1 x2 x3 : Str} {c1 c2 c3 : Value} {body suite : List Stmt} {b₀ : Stmt} {q1 q2 q3 tp pos pos' : Pos} {kk : Nat} {m ms : DSt} {cs : List Str}
theorem ds_try3 (hs : X.stack = X.env :: X.outer) (hf : X.env.frame = some X.env.locals) (hex : X.ex = []) (hN : X.N.Nodup) (hi : X.N[i]? = some n) (hln : X.env.kindOf n = some .local) (hc1 : Names X x1 c1) (hc2 : Names X x2 c2) (hc3 : Names X x3 c3) (tk : Takes X Wout)
    (hc : Catch X.K X.mg [c1, c2, c3] cs) (hb : ∀ (W : WX) (pn : List (Addr × Obj)) (xe : Value → Shared → Prop), Takes (X.tr pn xe) W → PassesOwn (model X.prog X.w) X.A X.env xe → DSs (X.tr pn xe) B W body m)
    (hsu : ∀ (a : Addr) (pn : List (Addr × Obj)), DSs (X.suite a pn) B W0 (b₀ :: suite) ms) :
    DS X B Wout (.Try body [.ExceptHandler (some (.Tuple [.Name x1 q1, .Name x2 q2, .Name x3 q3] kk tp)) (some n) (b₀ :: suite) pos'] [] [] pos) (dTry cs i m ms) := by
  refine ⟨psImp (ps_try_tup3 (tb := fun W => rdS (tx X) B W m) (ts := rdS (tx X) B W0 ms) hs hf hex hN hi hln hc1 hc2 hc3 tk (fun W pn xe t p => (hb W pn xe t p).run) (fun a pn => (hsu a pn).run)) fun De σ H ⟨ρ, G, env, μ, R, k⟩ => ⟨ρ, G, env, μ, R, ?_⟩⟩
  unfold dTry at k
  cases hm : m env μ with
  | none => rw [hm] at k; exact k.elim
  | some q =>
    obtain ⟨o, e', μ'⟩ := q
    rw [hm] at k
    cases o with
    | val f => cases f <;> exact k
    | exc x =>
      have k : KS (tx X) B Wout De ρ G (if x.cls ∈ cs then behind i (ms (e'.set i (.v (.exn x.cls x.fs))) μ') else none) := k
      split at k
      · rename_i hin
        obtain ⟨C, hmC, told⟩ := hc.ok _ hin
        intro σ' ρ' G' H' cls dd s p R' er
        obtain ⟨C', d, vf, rfl, hm', rfl, gd, rf⟩ := er
        have hm' : X.mg x.cls = some (.ref C') := hm'
        rw [hmC] at hm'; cases hm'
        refine ⟨true, told, ?_⟩
        rw [if_pos rfl]
        refine ⟨C, d, rfl, rfl, fun a na => ?_⟩
        have ga := (R'.fresh_ na).1
        have R2 := R'.alloc (o := exv a C d) na
        have gs := same_upd ga (o := exv a C d)
        have hda : d ≠ a := fun z => by
          have := R'.gh _ _ gd
          rw [z, na] at this; cases this
        have rx : Rep (tx X) ρ' (upd G' a (exv a C d)) (.ref a) (.exn x.cls x.fs) := by
          unfold Rep
          exact ⟨a, C, d, vf, rfl, hmC, upd_same, by rw [upd_ne hda]; exact gd, rf.mono gs (.refl _)⟩
        have k := k.weak (s.trans gs) p
        refine ⟨ρ', _, _, μ', R2.set (i := i) rx, ?_⟩
        cases hr : ms (e'.set i (.v (.exn x.cls x.fs))) μ' with
        | none => rw [hr] at k; exact k.elim
        | some q2 =>
          obtain ⟨o2, e2, μ2⟩ := q2
          rw [hr] at k
          have gone : ∀ {σ2 : L2.St} {ρ2 : List Addr} {G2 H2 : Hp}, RD (tx X) B ρ2 G2 H2 σ2 e2 μ2 → RD (tx X) B ρ2 G2 H2 (σ2.set i none) (e2.set i .no) μ2 := fun R3 => R3.setG (fun _ => by simp) fun d' z => by cases z
          cases o2 with
          | exc y => exact k.elim
          | val f =>
            cases f with
            | nx => exact fun σ2 ρ2 G2 H2 s2 p2 R3 => k _ ρ2 G2 H2 s2 p2 (gone R3)
            | brk => exact fun σ2 ρ2 G2 H2 s2 p2 R3 => k _ ρ2 G2 H2 s2 p2 (gone R3)
            | ct => exact fun σ2 ρ2 G2 H2 s2 p2 R3 => k _ ρ2 G2 H2 s2 p2 (gone R3)
            | ret d2 => exact k
      · exact k.elim
end
end Dv

/-! DwH: defs that are called within a suite, at the level of deep values. -/
namespace Dv
open PySem PySem.Spec PyProof.Rows L2
def spF (T : Tx) (n : Nat) (m : Fn) : List V → Hp → VK → Prop := fun vs H Q => spD T n m vs H Q fun _ _ _ => False
section
variable {P : Program} {w : World} {K : PySem.W.Frag} {mg : Str → Option Value} {base : Heap} {x qual : Str} {params : Arguments} {body : List Stmt} {scope : Scope} {f : Addr} {fd : FuncData}
theorem def_okF {N ps : List Str} {k : Nat} {m : DSt} (F : FunD K x qual params body scope [] [] f fd) (S : FnScope N ps scope)
    (hbody : ∀ (cdv : Value) (A : Around) (outer : List Env) (s : Shared) (H : Hp) (B : Bs), RoomF k (A.deeper (envOfC qual scope s.heap.objs.size f cdv)) → DSs (cxF P w K mg base N qual scope f cdv A outer s H) B W0 body m) :
    FnF P w K mg base (k + 1) f fd ps (spF ⟨K, mg⟩ ps.length (cleanD (defD N.length m))) := by
  refine fnF_of F S (fun vs H Q h => h.1) fun cdv A outer s H vs Q hr h => ?_
  obtain ⟨hl, ρ, G, ds, μ, gh, st, rs, told⟩ := h
  refine ⟨rdS ⟨K, mg⟩ ⟨H, G, ρ, []⟩ W0 m, (hbody cdv A outer s H _ hr).run, ρ, G, envD N.length ds, μ, start_rd gh st rs, ?_⟩
  unfold cleanD defD at told
  cases e : m (envD N.length ds) μ with
  | none => rw [e] at told; exact told.elim
  | some q =>
    obtain ⟨o, env', μ'⟩ := q
    rw [e] at told
    cases o with
    | exc y => exact fun σ' ρ' G' H' cls dd s p R er => told cls dd ρ' G' H' R.ext R.gh R.st er
    | val fl =>
      cases fl with
      | brk => exact told.elim
      | ct => exact told.elim
      | nx => exact fun σ' ρ' G' H' s p R => told .non ρ' G' H' R.ext R.gh R.st (show Rep _ _ _ _ _ from rep_non)
      | ret d =>
        have told : KC ⟨K, mg⟩ ρ G H Q (fun _ _ _ => False) (if nobor d then some (.val d, μ') else none) := told
        split at told
        · rename_i clean
          exact fun σ' env2 ρ' G' H' v s p R hv => told v ρ' G' H' R.ext R.gh R.st (repO_of hv clean)
        · exact told.elim
end
/-- such a def by its name -/
structure CalleeF (P : Program) (w : World) (K : PySem.W.Frag) (mg : Str → Option Value) (base : Heap) (x : Str) (ps : List Str) (k : Nat) (m : Fn) : Prop where
  ex : ∃ (f : Addr) (fd : FuncData), mg x = some (.ref f) ∧ PySem.W.keepIn K (.ref f) = true ∧ Binds K fd ps [] ∧ FnF P w K mg base k f fd ps (spF ⟨K, mg⟩ ps.length m)
/-- its value alone -/
def valOnly (m : Fn) : Fn := fun ds μ => match m ds μ with
  | some (.val d, μ') => some (.val d, μ')
  | _ => none
theorem de_callF {X : Cx} {B : Bs} {W : WX} {k n : Nat} {ps : List Str} {m : Fn} {x : Str} {p pos : Pos} {e : Expr} {es : List Expr} {na : DEnv → Mu → Res (List D)} (C : CalleeF X.prog X.w X.K X.mg X.base x ps k m) (room : RoomF k X.A) (hg : Gl X x) (ha : DA X B W (e :: es) na) (hn : ps.length = n := by rfl)
    (hdb : (x == ("__debug__" : Str)) = false := by decide) (first : starEach (e :: es) X.env = (false, eval e X.env) :: starEach es X.env := by rfl) (plain : (backTo pos (starEach es X.env)).any (·.1) = false := by rfl) :
    DE X B W (.Call (.Name x p) (e :: es) [] pos) (dCall (fCall n (valOnly m)) na) := by
  subst hn
  obtain ⟨f, fd, h1, h2, h3, h4⟩ := C.ex
  refine ⟨peImp (pe_callF h4 room hg h1 h2 h3 ha.run hdb first plain) fun σ H Q ⟨ρ, G, env, μ, R, k⟩ => ?_⟩
  refine ⟨ρ, G, env, μ, R, (KE.bind (f := fCall ps.length (valOnly m)) k).imp fun ρ1 G1 H1 μ1 ds s p R1 k1 vs hvs => ?_⟩
  unfold fCall at k1
  split at k1
  · rename_i h
    have r := hvs.reps h.2
    refine ⟨by rw [r.length, h.1], ρ1, G1, ds, μ1, R1.gh, R1.st, r, ?_⟩
    unfold valOnly at k1
    cases hm : m ds μ1 with
    | none => rw [hm] at k1; exact k1.elim
    | some q =>
      obtain ⟨o, μ2⟩ := q
      rw [hm] at k1
      cases o with
      | exc y => exact k1.elim
      | val d => exact fun v ρ' G' H' ex gh st ro => k1 ρ' G' H' ex.gg ex.pre (R1.after ex gh st) v (repX_after R1 ro)
  · exact k1.elim
end Dv

/-! DwI: a text in a written tuple of texts; what the law's helpers say of a caught error. -/
namespace Dv
open PySem PySem.Spec PyProof.Rows L2
def asStrs : List D → Option (List Str)
  | [] => some []
  | .str x :: ds => (match asStrs ds with
    | some l => some (x :: l)
    | none => none)
  | _ :: _ => none
theorem asStrs_inv {T : Tx} {ρ : List Addr} {G : Hp} : ∀ {l : List D} {ws : List Str} {vs : List V}, asStrs l = some ws → Reps T ρ G vs l → vs = ws.map V.str
  | [], ws, vs, e, r => by unfold asStrs at e; cases e; rw [r.inv0]; rfl
  | d :: ds, ws, vs, e, r => by
    cases d with
    | str x =>
      unfold asStrs at e
      cases h : asStrs ds with
      | none => simp only [h] at e; cases e
      | some l =>
        simp only [h] at e
        cases e
        obtain ⟨v, t, rfl, q, rs⟩ := r.inv
        unfold Rep at q
        rw [q, asStrs_inv h rs]; rfl
    | _ => unfold asStrs at e; cases e
def fInS (neg : Bool) : F2
  | .str x, .tup l, μ => (match asStrs l with
    | some ws => ret (.bl (neg != ws.any fun y => decide (y = x))) μ
    | none => none)
  | _, _, _ => none
theorem inV_strs (x : Str) (ws : List Str) : inV (.str x) (ws.map V.str) = ws.any fun y => decide (y = x) := by
  unfold inV
  rw [List.any_map]
  congr 1
theorem flat_strs (ws : List Str) : (ws.map V.str).all flatV = true := by
  rw [List.all_map]; exact List.all_eq_true.mpr fun _ _ => rfl
theorem opd_inS {X : Cx} (neg : Bool) : OpD (tx X) (rIn X.K neg) (fInS neg) := by
  intro B W σ env ρ G H μ x y d d' Q R hx hy k
  unfold fInS at k
  split at k
  · split at k
    · rename_i ws he
      obtain ⟨a, vs, rfl, q, z, r⟩ := tup_inv hy
      have hv := asStrs_inv he r
      subst hv
      refine ⟨a, _, rfl, .inr (sqG_mono R.gh q).sq, by rw [str_inv hx]; rfl, flat_strs ws, ?_⟩
      rw [str_inv hx, inV_strs]
      cases neg with
      | true => simp only [Bool.true_bne] at k; exact k.here R (.ofR rep_bl)
      | false => simp only [Bool.false_bne] at k; exact k.here R (.ofR rep_bl)
    · exact k.elim
  · exact k.elim
end Dv

/-! DwJ: the head, with defs that close over their class. -/
namespace Dv
open PySem PySem.Spec PyProof.Rows L2
/-- one such def: the class and the method by name -/
structure ClD where
  cls : Str
  meth : Str
  name : Str
  qual : Str
  params : Arguments
  body : List Stmt
  scope : Scope
def ClD.at_ (d : ClD) : Str × Option Str := (d.cls, some d.meth)
/-- what the text gives, but the closure -/
def clW (K : PySem.W.Frag) (p : Str × Option Str) : He.FnW := (He.fnW K p).map fun (a, b, c, d, e, g, _, i) => (a, b, c, d, e, g, [], i)
def ClD.val (d : ClD) : He.FnW := some (d.name, d.qual, d.params, .stmts d.body, d.scope, mainGlobals, [], builtinsNs)
def cellB (K : PySem.W.Frag) (c : Addr) (a : Addr) : Bool := match K.lookup c with
  | some ⟨_, _, .cell (some (.ref b)), _⟩ => decide (a = b)
  | _ => false
def fileB (K : PySem.W.Frag) (file : Str) (c : Value) : Bool := match c with
  | .ref a => (match K.lookup a with
    | some ⟨_, _, .fields vs, _⟩ => (match (vs[2]? : Option Value) with
      | some (.str f _) => file == f
      | _ => false)
    | _ => false)
  | _ => false
def ClD.ok (file : Str) (K : PySem.W.Frag) (d : ClD) : Bool := PySem.W.keepIn K (.ref (He.fAd K d.at_)) && (match K.lookup (He.fAd K d.at_) with
  | some ⟨_, _, .func fd, _⟩ => PySem.W.codeIn K fd.code d.qual && (fileB K file fd.code && ((match fd.defaults with
      | .none => true
      | _ => false) && (match fd.closure with
      | [(n, c)] => n == ("__class__" : Str) && cellB K c (He.ga K d.cls)
      | _ => false)))
  | _ => false)
theorem cellB_ok {K : PySem.W.Frag} {c a : Addr} (h : cellB K c a = true) : ∃ cl cld csl, K.lookup c = some ⟨cl, cld, .cell (some (.ref a)), csl⟩ := by
  unfold cellB at h
  split at h
  · rename_i q
    have := of_decide_eq_true h
    subst this
    exact ⟨_, _, _, q⟩
  · cases h
theorem fileB_ok {K : PySem.W.Frag} {file : Str} {c : Value} (h : fileB K file c = true) : ∃ cda ccl cdd vs ccs f tf, c = .ref cda ∧ K.lookup cda = some ⟨ccl, cdd, .fields vs, ccs⟩ ∧ vs[2]? = some (.str f tf) ∧ (file == f) = true := by
  unfold fileB at h
  split at h
  · rename_i a
    split at h
    · rename_i q
      split at h
      · rename_i q2
        exact ⟨a, _, _, _, _, _, _, rfl, q, q2, h⟩
      · cases h
    · cases h
  · cases h
theorem ClD.supD {P : Program} {K : PySem.W.Frag} {d : ClD} (e : clW K d.at_ = d.val) (c : d.ok P.main.file K = true) : ∃ fd, SupD P K d.name d.qual d.params d.body d.scope (He.fAd K d.at_) fd (He.ga K d.cls) := by
  unfold ClD.ok at c
  rw [Bool.and_eq_true] at c
  obtain ⟨kp, c⟩ := c
  unfold clW He.fnW at e
  split at c
  · rename_i oc od fd osl q
    rw [q] at e
    obtain ⟨n1, n2, n3, n4, n5, n6, n7, n8, n9, n10, n11, n12, n13, n14, n15⟩ := fd
    simp only [Option.map_some, ClD.val, Option.some.injEq, Prod.mk.injEq] at e
    obtain ⟨h1, h2, h3, h4, h5, h6, _, h8⟩ := e
    subst h1 h2 h3 h4 h5 h6 h8
    simp only [Bool.and_eq_true] at c
    obtain ⟨k1, k2, k3, k4⟩ := c
    obtain ⟨cda, ccl, cdd, vs, ccs, f, tf, e1, e2, e3, e4⟩ := fileB_ok k2
    have e1 : n13 = .ref cda := e1
    subst e1
    cases n8 <;> try cases k3
    split at k4
    · rename_i nm cc
      rw [Bool.and_eq_true] at k4
      obtain ⟨g1, g2⟩ := k4
      have := eq_of_beq g1
      subst this
      obtain ⟨cl, cld, csl, hc⟩ := cellB_ok g2
      exact ⟨_, ⟨oc, od, n9, n10, n11, n12, cda, n14, osl, cc, cl, cld, csl, ccl, cdd, vs, ccs, f, tf, rfl, q, k1, e2, e3, e4, hc⟩, kp⟩
    · cases k4
  · cases c
/-! ### the Hook -/
abbrev AlC : Type := He.AlD × Bool × List He.FnW
def obsC (file : Str) (fa : List He.Fa) (fn : List He.DefD) (fc : List ClD) (K : PySem.W.Frag) : AlC := (He.obsD fa fn K, fc.all fun d => d.ok file K, fc.map fun d => clW K d.at_)
def valC (fn : List He.DefD) (fc : List ClD) : AlC := (He.valD fn, true, fc.map ClD.val)
structure SaysC (file : Str) (fa : List He.Fa) (fn : List He.DefD) (fc : List ClD) (K : PySem.W.Frag) : Prop where
  eq : obsC file fa fn fc K = valC fn fc
section
variable {file : Str} {fa : List He.Fa} {fn : List He.DefD} {fc : List ClD} {K : PySem.W.Frag}
theorem SaysC.plain (c : SaysC file fa fn fc K) : He.SaysD fa fn K := congrArg Prod.fst c.eq
theorem SaysC.cl {P : Program} (c : SaysC P.main.file fa fn fc K) (i : Nat) {d : ClD} (h : fc[i]? = some d := by rfl) : ∃ fd, SupD P K d.name d.qual d.params d.body d.scope (He.fAd K d.at_) fd (He.ga K d.cls) := by
  have all : (fc.all fun d => d.ok P.main.file K) = true := congrArg (fun z : AlC => z.2.1) c.eq
  have maps : (fc.map fun d => clW K d.at_) = fc.map ClD.val := congrArg (fun z : AlC => z.2.2) c.eq
  have one : (fc.map fun d => clW K d.at_)[i]? = (fc.map ClD.val)[i]? := by rw [maps]
  rw [List.getElem?_map, List.getElem?_map, h] at one
  exact ClD.supD (Option.some.inj one) (List.all_eq_true.mp all d (List.mem_of_getElem? h))
end
end Dv

/-! DwK: the facts of own errors, checked by Bool. -/
namespace Dv
open PySem PySem.Spec PyProof.Rows L2
section
variable {K : PySem.W.Frag} {C D : Addr}
/-- the shape of the class object of an error over the base b -/
def oexShape (b : EBase) (C : Addr) : Option Obj → Bool
  | some ⟨.type t, _, .cls cd, ⟨[_, _, _, _, some (.builtin n), _]⟩⟩ => decide (t = "type") && (decide (n = b.new) && ((!cd.hasDel) && (cd.hasDict && (match cd.mro with
    | .ref C' :: bm => decide (C' = C) && PySem.W.excTail b.tail bm
    | _ => false))))
  | _ => false
theorem oexShape_ok {b : EBase} {o : Option Obj} (h : oexShape b C o = true) : ∃ nm q N bs bm sn sub ab col dd k0 k1 k2 k3 k5, o = some (excClassObj nm q C N bs bm true sn sub ab col dd k0 k1 k2 k3 k5 b.new) ∧ PySem.W.excTail b.tail bm = true := by
  unfold oexShape at h
  split at h
  · rename_i t dd cd k0 k1 k2 k3 n k5
    obtain ⟨nm, bs, mro, N, q, hd, sn, sub, ab, col, hdel⟩ := cd
    simp only [Bool.and_eq_true, Bool.not_eq_true', decide_eq_true_eq] at h
    obtain ⟨h1, h2, h3, h4, h5⟩ := h
    split at h5
    · rename_i C' bm
      simp only [Bool.and_eq_true, decide_eq_true_eq] at h5
      obtain ⟨h5, h6⟩ := h5
      subst h1 h2 h3 h4 h5
      exact ⟨_, _, _, _, bm, _, _, _, _, _, _, _, _, _, _, rfl, h6⟩
    · cases h5
  · cases h
def oexB (b : EBase) (K : PySem.W.Frag) (C : Addr) : Bool := oexShape b C (K.lookup C) && (decide (PySem.W.findIn K (.ref C) "__setattr__" = some (some (.builtin "object.__setattr__"))) && (decide (PySem.W.subIn K (.ref C) (.type "BaseException") = some true) && (decide (PySem.W.typeIn K (.ref C) = some (.type "type")) && PySem.W.keepIn K (.ref C))))
theorem oexB_ok {b : EBase} (h : oexB b K C = true) : OexN K C b := by
  unfold oexB at h
  simp only [Bool.and_eq_true, decide_eq_true_eq] at h
  exact ⟨oexShape_ok h.1, h.2.1, h.2.2.1, h.2.2.2.1, h.2.2.2.2⟩
def supB (b : EBase) (K : PySem.W.Frag) (C D : Addr) : Bool := oexB b K C && ((PySem.W.clsIn K D).isSome && (decide (PySem.W.mroIn K C (.ref D) = some true) && (decide (PySem.W.ks_superIn K C D "__init__" = some (some (.builtin b.ini))) && (decide (PySem.W.subIn K (.ref C) (.type b.nm) = some true) && decide (PySem.W.nsIn K cStatics "thirdparty.any" = some none)))))
theorem supB_ok {b : EBase} (h : supB b K C D = true) : SupC K C D b := by
  unfold supB at h
  simp only [Bool.and_eq_true, decide_eq_true_eq] at h
  exact ⟨oexB_ok h.1, Option.isSome_iff_exists.mp h.2.1, h.2.2.1, h.2.2.2.1, h.2.2.2.2.1, h.2.2.2.2.2⟩
end
/-! ### a head with free checks beside it -/
abbrev AlB : Type := AlC × Bool
def obsB (file : Str) (fa : List He.Fa) (fn : List He.DefD) (fc : List ClD) (bs : List (PySem.W.Frag → Bool)) (K : PySem.W.Frag) : AlB := (obsC file fa fn fc K, bs.all fun b => b K)
def valB (fn : List He.DefD) (fc : List ClD) : AlB := (valC fn fc, true)
structure SaysB (file : Str) (fa : List He.Fa) (fn : List He.DefD) (fc : List ClD) (bs : List (PySem.W.Frag → Bool)) (K : PySem.W.Frag) : Prop where
  eq : obsB file fa fn fc bs K = valB fn fc
section
variable {file : Str} {fa : List He.Fa} {fn : List He.DefD} {fc : List ClD} {bs : List (PySem.W.Frag → Bool)} {K : PySem.W.Frag}
theorem SaysB.says (c : SaysB file fa fn fc bs K) : SaysC file fa fn fc K := ⟨congrArg Prod.fst c.eq⟩
end
/-- of the class of this name the attribute f is none's -/
def noB (c f : Str) : PySem.W.Frag → Bool := fun K => decide (PySem.W.findIn K (.ref (He.ga K c)) f = some none)
theorem noB_ok {c f : Str} {K : PySem.W.Frag} (h : noB c f K = true) : PySem.W.findIn K (.ref (He.ga K c)) f = some none := of_decide_eq_true h
/-- errors of the class of this name are caught by the classes of these names -/
def catB (c : Str) (cs : List Str) : PySem.W.Frag → Bool := fun K => decide (PySem.W.exmAny K (.ref (He.ga K c)) (cs.map fun d => .ref (He.ga K d)) = some true)
theorem catB_ok {c : Str} {cs : List Str} {K : PySem.W.Frag} (h : catB c cs K = true) : PySem.W.exmAny K (.ref (He.ga K c)) (cs.map fun d => .ref (He.ga K d)) = some true := of_decide_eq_true h
/-- a class's own init function -/
def iniB (c : Str) : PySem.W.Frag → Bool := fun K => decide (PySem.W.findIn K (.ref (He.ga K c)) "__init__" = some (some (.ref (He.fAd K (c, some "__init__"))))) && decide (PySem.W.typeIn K (.ref (He.fAd K (c, some "__init__"))) = some (.type "function"))
theorem iniB_ok {c : Str} {K : PySem.W.Frag} (h : iniB c K = true) : PySem.W.findIn K (.ref (He.ga K c)) "__init__" = some (some (.ref (He.fAd K (c, some "__init__")))) ∧ PySem.W.typeIn K (.ref (He.fAd K (c, some "__init__"))) = some (.type "function") := by
  unfold iniB at h
  simp only [Bool.and_eq_true, decide_eq_true_eq] at h
  exact h
end Dv

/-! DwL: the law is called, its tables of lambdas in the store. -/
namespace Dv
open PySem PySem.Spec PyProof.Rows L2
/-- what is frozen: all but these -/
def but (H : Hp) (ρ : List Addr) : Hp := fun b => if b ∈ ρ then none else H b
theorem but_same {H : Hp} {ρ : List Addr} : Same (but H ρ) H := fun b u e => by
  unfold but at e
  split at e
  · cases e
  · exact e
section
variable {K : PySem.W.Frag} {mg : Str → Option Value}
end
end Dv

/-! DwM: a table of the store grows. -/
namespace Dv
open PySem PySem.Spec PyProof.Rows L2
section
variable {T : Tx} {B : Bs} {ρ : List Addr} {G H : Hp} {σ : L2.St} {env : DEnv} {μ : Mu} {k : Nat} {P : Addr} {pl : Str × Option Str} {q : Str}
theorem RD.setTab {ps : Array Value} (R : RD T B ρ G H σ env μ) (hP : ρ[k]? = some P) (hm : μ[k]? = some (.tab pl q)) (tr : TriplesOk ps.toList)
    (hc : ∀ (pos : Pos) (u : Value), codeAmong pos ps.toList = some u → ∃ c, u = .ref c ∧ G c = some (LamX.CodeO c q)) : RD T B ρ G (upd H P (.tbl ps)) σ env μ := by
  have inP : P ∈ ρ := List.mem_of_getElem? hP
  have gP := R.st.off P inP
  refine ⟨fun b u e => ?_, ⟨R.ext.gg, R.ext.pre, fun b u e => ?_, R.ext.fg, R.ext.fr⟩, R.len, fun i t ht => ?_, R.own, ⟨R.st.len, R.st.nd, R.st.off, fun j m hj => ?_⟩, fun x hx => ?_, R.xn⟩
  · have n : b ≠ P := fun z => by rw [z, gP] at e; cases e
    rw [upd_ne n]; exact R.gh b u e
  · by_cases z : b = P
    · refine ⟨_, by rw [z]; exact upd_same, fun n => ?_⟩
      rw [z] at e n
      have := R.ext.fr P inP n
      rw [this] at e; cases e
    · rw [upd_ne z]; exact R.ext.keep b u e
  · have h := R.slot i t ht
    match t, h with
    | .no, _ => exact True.intro
    | .v _, h => exact h
    | .own l', ⟨p, vs, q1, q2, q3, q4, q5, q6, q7⟩ =>
      have np : p ≠ P := fun z => by rw [z] at q6; exact q6 inP
      exact ⟨p, vs, q1, by rw [upd_ne np]; exact q2, q3, q4, q5, q6, q7⟩
  · obtain ⟨a, ea, r⟩ := R.st.at_ j m hj
    by_cases z : a = P
    · have hjk : j < ρ.length := (List.getElem?_eq_some_iff.mp ea).1
      rw [z] at ea
      have e : j = k := (List.getElem?_inj hjk R.st.nd).mp (ea.trans hP.symm)
      rw [e, hm] at hj
      cases hj
      obtain ⟨a2, ea2, r2⟩ := R.st.at_ k _ hm
      rw [hP] at ea2; cases ea2
      exact ⟨P, ea, r2.1, ps, upd_same, tr, hc⟩
    · exact ⟨a, ea, r.to (fun _ _ g => g) fun o e1 => by rw [upd_ne z]; exact e1⟩
  · obtain ⟨q1, q2, q3, q4⟩ := R.xo x hx
    have np : x.1 ≠ P := fun z => by rw [z] at q3; exact q3 inP
    exact ⟨by rw [upd_ne np]; exact q1, q2, q3, q4⟩
end
end Dv

/-! DwN: a lambda is made, told exactly: the code stood in the table, or one is added. -/
namespace Dv
open PySem PySem.Spec PyProof.Rows L2
/-- the maker's table as it stands -/
structure TabAt (H : Hp) (P : Addr) (q : Str) (ps : Array Value) : Prop where
  at_ : H P = some (.tbl ps)
  tr : TriplesOk ps.toList
  code : ∀ (pos : Pos) (u : Value), codeAmong pos ps.toList = some u → ∃ c, u = .ref c ∧ H c = some (LamX.CodeO c q)
abbrev lamQ (X : Cx) : Str := X.env.qual ++ "<lambda>"
abbrev triple (pos : Pos) (c : Addr) : Array Value := #[rawInt pos.line, rawInt pos.col, .ref c]
/-- what is handed on: the function object at f -/
structure MadeAt (X : Cx) (params : Arguments) (body : Expr) (scope : Scope) (H1 : Hp) (s' : Shared) (f c' : Addr) : Prop where
  ex : ∃ pm ctv : Value, s'.heap.get? f = some (PySem.W.kla_obj "<lambda>" (lamQ X) params body scope (cloFrom X.env.cells scope.names []) pm c' ctv)
  none_ : H1 f = none
  off : f ∉ frs X.stack
  code : H1 c' = some (LamX.CodeO c' (lamQ X))
section
variable {X : Cx} {pins : List (Addr × Obj)} {σ : L2.St} {H : Hp} {s : Shared} {c P : Addr} {params : Arguments} {body : Expr} {scope : Scope} {pos : Pos} {E Q : Value → Shared → Prop} {ps : Array Value}
end
end Dv

/-! DwO: the making of a lambda at the level of deep values. -/
namespace Dv
open PySem PySem.Spec PyProof.Rows L2
section
variable {X : Cx} {B : Bs} {ρ : List Addr} {G H : Hp} {σ : L2.St} {env : DEnv} {μ : Mu} {k : Nat} {c P : Addr} {pl : Str × Option Str} {q : Str} {T : Tx}
theorem RD.tabAt (R : RD T B ρ G H σ env μ) (hP : ρ[k]? = some P) (hm : μ[k]? = some (.tab pl q)) : ∃ ps, TabAt H P q ps ∧ ∀ (pos : Pos) (u : Value), codeAmong pos ps.toList = some u → ∃ a, u = .ref a ∧ G a = some (LamX.CodeO a q) := by
  obtain ⟨a, ea, r⟩ := R.st.at_ k _ hm
  rw [hP] at ea
  cases ea
  obtain ⟨_, ps, e1, e2, e3⟩ := r
  exact ⟨ps, ⟨e1, e2, fun pos u hu => (let ⟨a, x, y⟩ := e3 pos u hu; ⟨a, x, R.gh _ _ y⟩)⟩, e3⟩
theorem RD.lam {ps : Array Value} {pos : Pos} {c' : Addr} (R : RD T B ρ G H σ env μ) (hP : ρ[k]? = some P) (hm : μ[k]? = some (.tab pl q)) (t : TabAt H P q ps) (old : ∀ (pos : Pos) (u : Value), codeAmong pos ps.toList = some u → ∃ a, u = .ref a ∧ G a = some (LamX.CodeO a q)) (n : H c' = none) :
    RD T B ρ (upd G c' (LamX.CodeO c' q)) (upd (upd H P (.tbl (ps ++ triple pos c'))) c' (LamX.CodeO c' q)) σ env μ := by
  have ne : P ≠ c' := ne_of_none t.at_ n
  have gn : G c' = none := (R.fresh_ n).1
  have R1 := R.alloc (o := LamX.CodeO c' q) n
  have eL : (ps ++ triple pos c').toList = ps.toList ++ [rawInt pos.line, rawInt pos.col, .ref c'] := by simp [triple]
  have R2 := R1.setTab (ps := ps ++ triple pos c') hP hm (by rw [eL]; exact PySem.TriplesOk_snoc _ _ _ _ t.tr) fun pos' u hu => by
    rw [eL] at hu
    rcases LamX.among_app _ t.tr hu with z | z
    · obtain ⟨a, e1, e2⟩ := old pos' u z
      exact ⟨a, e1, same_upd gn _ _ e2⟩
    · exact ⟨c', z, upd_same⟩
  have sw : upd (upd H c' (LamX.CodeO c' q)) P (.tbl (ps ++ triple pos c')) = upd (upd H P (.tbl (ps ++ triple pos c'))) c' (LamX.CodeO c' q) := by
    funext b
    by_cases h1 : b = P
    · rw [h1, upd_same, upd_ne ne, upd_same]
    · rw [upd_ne h1]
      by_cases h2 : b = c'
      · rw [h2, upd_same, upd_same]
      · rw [upd_ne h2, upd_ne h2, upd_ne h1]
  rw [sw] at R2
  exact R2
end
end Dv

/-! DwP: the state in which a lambda's body is read: the caller's plain names alone. -/
namespace Dv
open PySem PySem.Spec PyProof.Rows L2
def unown : SV → SV
  | .own _ => .no
  | s => s
theorem unown_not {env : DEnv} {i : Nat} {l : List D} (h : (env.map unown)[i]? = some (.own l)) : False := by
  rw [List.getElem?_map] at h
  cases e : env[i]? with
  | none => rw [e] at h; cases h
  | some t => rw [e] at h; cases t <;> cases h
section
variable {B : Bs} {ρ : List Addr} {G H : Hp} {σ : L2.St} {env : DEnv} {μ : Mu} {T : Tx}
theorem RD.unown (R : RD T B ρ G H σ env μ) : RD T ⟨H, G, ρ, []⟩ ρ G H σ (env.map Dv.unown) μ := by
  refine ⟨R.gh, Ext.refl _ _ _, by rw [List.length_map]; exact R.len, fun i t ht => ?_, fun i j l l' p h1 => (unown_not h1).elim, R.st, fun x hx => absurd hx List.not_mem_nil, List.nodup_nil⟩
  rw [List.getElem?_map] at ht
  cases e : env[i]? with
  | none => rw [e] at ht; cases ht
  | some u =>
    rw [e] at ht
    have h := R.slot i u e
    cases u with
    | no => cases ht; exact True.intro
    | v d => cases ht; exact h
    | own l => cases ht; exact True.intro
end
end Dv

/-! DwQ: a def called with a lambda, told exactly. -/
namespace Dv
open PySem PySem.Spec PyProof.Rows L2
abbrev Told : Type := (XK → Hp → VK → Prop) → Hp → VK → Prop
/-- the def x at g, its one parameter a -/
structure OneArg (X : Cx) (x a : Str) (g : Addr) (cdg : Value) (bg : List Stmt) (sg : Scope) (Ng : List Str) : Prop where
  ex : ∃ (pg : Arguments) (dV kV doc pm ct oc : Value) (an od : Option Addr) (osl : Array (Option Value)), X.K.lookup g = some ⟨oc, od, .func (PySem.W.fnOf x x pg bg sg dV kV doc pm an cdg ct), osl⟩ ∧ L2.Binds X.K (PySem.W.fnOf x x pg bg sg dV kV doc pm an cdg ct) [a] []
  code : PySem.W.codeIn X.K cdg x = true
  kept : PySem.W.keepIn X.K (.ref g) = true
  sc : FnScope Ng [a] sg
  zero : Ng[0]? = some a
  vis : Vis sg a
  d1 : (a == ("__debug__" : Str)) = false
  d2 : (a == ("__classdict__" : Str)) = false
section
variable {X : Cx} {x a : Str} {g c P : Addr} {cdg : Value} {bg : List Stmt} {sg : Scope} {Ng : List Str} {k : Nat} {params : Arguments} {body : Expr} {scope : Scope} {t : XK → TE} {p lpos pos : Pos} {G : Told}
end
end Dv

/-! DwR: what a def got is called: the lambda's body is read at its maker's state; what it lets out is told of the caller's very state. -/
namespace Dv
open PySem PySem.Spec PyProof.Rows L2
section
variable {X : Cx} {pins : List (Addr × Obj)} {σ : L2.St} {H : Hp} {s : Shared} {CXg : CXT} {Eg : XK} {Ng : List Str} {qg : Str} {sg : Scope} {g f c' : Addr} {cdg pm ctv : Value} {params : Arguments} {body : Expr} {scope : Scope} {k i : Nat} {a : Str} {pn : List (Addr × Obj)} {xe : Value → Shared → Prop} {W : WX} {t : XK → TE} {p1 p2 : Pos}
end
end Dv

/-! DwS: x(lambda: e) at the level of deep values: what the asker makes of e's meaning. -/
namespace Dv
open PySem PySem.Spec PyProof.Rows L2
section
variable {X : Cx} {x a : Str} {g c P : Addr} {cdg : Value} {bg : List Stmt} {sg : Scope} {Ng : List Str} {k : Nat} {params : Arguments} {body : Expr} {scope : Scope} {t : XK → TE} {p lpos pos : Pos} {G : Told}
end
/-! ### asked, at the level of deep values -/
/-! ### the call with a lambda -/
section
variable {X : Cx} {B : Bs} {W : WX} {x a : Str} {g : Addr} {cdg : Value} {bg : List Stmt} {sg : Scope} {Ng : List Str} {k j n : Nat} {pl : Str × Option Str} {params : Arguments} {body : Expr} {scope : Scope} {p lpos pos : Pos} {m : DEx → DSt} {why : (Mu → Res D) → Mu → Res D} {mb : DEx}
end
end Dv

/-! DwT: ranges as values, membership in them, a text times a number, the module's constants. -/
namespace Dv
open PySem PySem.Spec PyProof.Rows L2
/-! ### in a range, by search -/
section
variable {X : Cx} {B : Bs} {W : WX}
/-! ### a text times a number -/
end
/-! ### the module's constants -/
section
variable {X : Cx} {B : Bs} {W : WX} {x : Str} {p : Pos}
/-- a number of the module -/
theorem g_int {i : Int} (h : ∃ t, X.mg x = some (.int i t)) (hg : Gl X x := by rfl) (hd : (x == ("__debug__" : Str)) = false := by decide) : DE X B W (.Name x p) (dC (.int i)) := by
  obtain ⟨t, hm⟩ := h
  exact de_c (pe_glob (v := .int i) hg hm ⟨t, rfl⟩ hd) fun _ _ => rep_int
/-- a tuple of numbers of the module -/
structure GTup (K : PySem.W.Frag) (mg : Str → Option Value) (x : Str) (l : List Int) : Prop where
  ex : ∃ a, mg x = some (.ref a) ∧ ∀ G, SqG K G a (l.map V.int)
theorem g_tup {l : List Int} (h : GTup X.K X.mg x l) (hz : szl l.length := by decide) (hg : Gl X x := by rfl) (hd : (x == ("__debug__" : Str)) = false := by decide) : DE X B W (.Name x p) (dC (.tup (l.map D.int))) := by
  obtain ⟨a, hm, hq⟩ := h.ex
  exact de_c (pe_glob (v := .ref a) hg hm rfl hd) fun ρ G => rep_tup (hq G) (by rw [List.length_map]; exact hz) (reps_ints l)
end
/-! ### a flat value in a tuple or list of flat ones -/
def vOf : D → Option V
  | .non => some .non
  | .bl b => some (.bl b)
  | .int i => some (.int i)
  | .str z => some (.str z)
  | _ => none
def vsOf : List D → Option (List V)
  | [] => some []
  | d :: ds => (match vOf d, vsOf ds with
    | some v, some l => some (v :: l)
    | _, _ => none)
theorem vOf_inv {T : Tx} {ρ : List Addr} {G : Hp} {v x : V} {d : D} (e : vOf d = some x) (r : Rep T ρ G v d) : v = x ∧ flatV x = true := by
  cases d <;> first | (cases e; unfold Rep at r; exact ⟨r, rfl⟩) | cases e
theorem vsOf_inv {T : Tx} {ρ : List Addr} {G : Hp} : ∀ {l : List D} {xs vs : List V}, vsOf l = some xs → Reps T ρ G vs l → vs = xs ∧ xs.all flatV = true
  | [], xs, vs, e, r => by unfold vsOf at e; cases e; exact ⟨r.inv0, rfl⟩
  | d :: ds, xs, vs, e, r => by
    unfold vsOf at e
    split at e
    · rename_i v l h1 h2
      cases e
      obtain ⟨u, t, rfl, q, rs⟩ := r.inv
      obtain ⟨rfl, f1⟩ := vOf_inv h1 q
      obtain ⟨rfl, f2⟩ := vsOf_inv h2 rs
      exact ⟨rfl, by rw [List.all_cons, f1, f2]; rfl⟩
    · cases e
def seqF : D → Option (List D)
  | .tup l => some l
  | .lst l => some l
  | .bor l => some l
  | _ => none
def fInF (neg : Bool) : F2 := fun a b μ => match vOf a, (seqF b).bind vsOf with
  | some x, some xs => ret (.bl (neg != inV x xs)) μ
  | _, _ => none
theorem opd_inF {X : Cx} (neg : Bool) : OpD (tx X) (rIn X.K neg) (fInF neg) := by
  intro B W σ env ρ G H μ x y d d' Q R hx hy k
  unfold fInF at k
  split at k
  · rename_i v xs h1 h2
    have ex : x = v ∧ flatV v = true := by
      cases d with
      | bor l => cases h1
      | _ => exact vOf_inv (T := tx X) (ρ := ρ) (G := G) h1 hx
    obtain ⟨rfl, f1⟩ := ex
    have fin : ∀ {a : Addr} {vs : List V} {l : List D}, vsOf l = some xs → Reps (tx X) ρ G vs l → (SqL X.K H a vs ∨ SqT X.K H a vs) → rIn X.K neg x (.ref a) H Q := fun {a vs l} e r q => by
      obtain ⟨rfl, f2⟩ := vsOf_inv e r
      refine ⟨a, _, rfl, q, f1, f2, ?_⟩
      cases neg with
      | true => simp only [Bool.true_bne] at k; exact k.here R (.ofR rep_bl)
      | false => simp only [Bool.false_bne] at k; exact k.here R (.ofR rep_bl)
    cases d' with
    | tup l => obtain ⟨a, vs, rfl, q, z, r⟩ := tup_inv hy; exact fin h2 r (.inr (sqG_mono R.gh q).sq)
    | lst l => obtain ⟨a, vs, rfl, q, z, r⟩ := seqL_inv (d := .lst l) R hy rfl; exact fin h2 r (.inl (.of q))
    | bor l => obtain ⟨a, vs, rfl, q, z, r⟩ := seqL_inv (d := .bor l) R hy rfl; exact fin h2 r (.inl (.of q))
    | _ => cases h2
  · exact k.elim
end Dv

/-! DwU: the head with closures, free checks and tables; makers of lambdas; the law's end. -/
namespace Dv
open PySem PySem.Spec PyProof.Rows L2
theorem gTup_of {K : PySem.W.Frag} {mg : Str → Option Value} {x : Str} {l : List Int} (hm : mg x = some (.ref (He.ga K x))) (h : He.tupB K x (l.map He.Dv.int) = true) : GTup K mg x l := by
  refine ⟨_, hm, fun G => ?_⟩
  have q := He.tupB_ok h (fun _ => none)
  have e : (l.map He.Dv.int).map (He.Dv.v K) = l.map V.int := by rw [List.map_map]; rfl
  rw [e] at q
  rcases q with (q | ⟨o, q⟩) | q
  · cases q
  · cases q
  · exact .inr q
/-! ### the Hook -/
abbrev AlY : Type := AlB × Bool
structure SaysY (file : Str) (fa : List He.Fa) (fn : List He.DefD) (fc : List ClD) (bs : List (PySem.W.Frag → Bool)) (tf : List He.Defn) (h : Heap) (K : PySem.W.Frag) : Prop where
  b : SaysB file fa fn fc bs K
  hd : ∀ p ∈ tf, PySem.W.codeHdIn K (He.cT K p).1 (He.cT K p).2 = true
  out : ∀ p ∈ tf, K.lookup (He.cT K p).2 = none
  empty : ∀ p ∈ tf, h.get? (He.cT K p).2 = some { cls := .none, data := .fields #[] }
def frY (n : Nat) (g : Addr → Option Obj) : PySem.W.Frag := He.frT g (He.asD g n ++ [cStatics])
def obsY (file : Str) (n : Nat) (fa : List He.Fa) (fn : List He.DefD) (fc : List ClD) (bs : List (PySem.W.Frag → Bool)) (tf : List He.Defn) (g : Addr → Option Obj) : AlY := (obsB file fa fn fc bs (frY n g), He.tabsB g tf (frY n g))
def valY (fn : List He.DefD) (fc : List ClD) : AlY := (valB fn fc, true)
section
variable {file : Str} {n : Nat} {fa : List He.Fa} {fn : List He.DefD} {fc : List ClD} {bs : List (PySem.W.Frag → Bool)} {tf : List He.Defn}
theorem saysY_of {h : Heap} (e : obsY file n fa fn fc bs tf h.get? = valY fn fc) : SaysY file fa fn fc bs tf h (frY n h.get?) := by
  have e1 : obsB file fa fn fc bs (frY n h.get?) = valB fn fc := congrArg Prod.fst e
  have e2 : He.tabsB h.get? tf (frY n h.get?) = true := congrArg Prod.snd e
  have each : ∀ p ∈ tf, PySem.W.codeHdIn (frY n h.get?) (He.cT (frY n h.get?) p).1 (He.cT (frY n h.get?) p).2 = true ∧ ∃ o, h.get? (He.cT (frY n h.get?) p).2 = some o ∧ He.emptyTab o = true := fun p hp => by
    have q := List.all_eq_true.mp e2 p hp
    rw [Bool.and_eq_true] at q
    refine ⟨q.1, ?_⟩
    have q2 := q.2
    split at q2
    · rename_i o ho; exact ⟨o, ho, q2⟩
    · cases q2
  exact ⟨⟨e1⟩, fun p hp => (each p hp).1, fun p hp => (let ⟨_, o, q, z⟩ := each p hp; He.frT_none q z), fun p hp => (let ⟨_, o, q, z⟩ := each p hp; by rw [q, He.emptyTab_eq z])⟩
end
/-! ### makers of lambdas -/
section
variable {P : Program} {w : World} {K : PySem.W.Frag} {mg : Str → Option Value} {base : Heap} {x qual : Str} {params : Arguments} {body : List Stmt} {scope : Scope} {fd : FuncData} {pl : Str × Option Str}
end
/-! ### the lambda's body's context -/
end Dv

/-! DwV: drawing, wherever the drawer stands in the store. (Printed from DvQ's text.) -/
namespace Dv
open PySem PySem.Spec PyProof.Rows L2
theorem draw_okJ (j : Nat) (μ : Mu) (hj : j < μ.length) (s : Src) (n : Int) (hs : OkS s) (h0 : 0 < n) (h1 : n < 1073741824) : ∃ r s', mDraw [.obj j, .int n] (μ.set j (.src s)) = some (.val (.int r), (μ.set j (.src s'))) ∧ 0 ≤ r ∧ r < n ∧ OkS s' := by
  have gj : ∀ x, (μ.set j x)[j]? = some x := fun x => List.getElem?_set_self hj
  have sj : ∀ x y, (μ.set j x).set j y = μ.set j y := fun x y => List.set_set ..
  have hz : szl s.cells.length := Nat.le_trans hs.sz (by decide)
  suffices h : ∃ r s' env, bDraw [.v (.obj j), .v (.int n), .no, .no, .no] (μ.set j (.src s)) = some (.val (.ret (.int r)), env, (μ.set j (.src s'))) ∧ 0 ≤ r ∧ r < n ∧ OkS s' by
    obtain ⟨r, s', env, e, a, b, c⟩ := h
    exact ⟨r, s', def_ret e rfl, a, b, c⟩
  unfold bDraw
  have hT : (dAndT (dTest (dBin fEq (dBin fIxS (dVar 0) (dC (.int 2))) (dC (.int 0)))) (dTest (dBin (fCmp fun i j => decide (i < j)) (dBin fIxS (dVar 0) (dC (.int 1))) (dCall fLen (dCons (dBin fIxS (dVar 0) (dC (.int 0))) dNil))))) [.v (.obj j), .v (.int n), .no, .no, .no] (μ.set j (.src s)) = some (.val (decide (s.big = 0) && decide (s.at_ < s.cells.length)), (μ.set j (.src s))) := by
    by_cases hb : s.big = 0
    all_goals simp only [dAndT, dTest, fTest, dBin, dC, dVar, bindR, Dv.ret, hold, fIxS, dCall, dCons, dNil, fLen, fCmp, feq_int, gj, sj, List.getElem?_cons_zero, sg1, sg2, sg0 s hz, hb, decide_true, decide_false, Bool.true_and, Bool.false_and, if_true, List.length_map, Bool.false_eq_true, if_false]
  have h2 : ∃ x s1, OkS s1 ∧ (dIfS (dAndT (dTest (dBin fEq (dBin fIxS (dVar 0) (dC (.int 2))) (dC (.int 0)))) (dTest (dBin (fCmp fun i j => decide (i < j)) (dBin fIxS (dVar 0) (dC (.int 1))) (dCall fLen (dCons (dBin fIxS (dVar 0) (dC (.int 0))) dNil))))) (dSeq (dAsg (dBin fIxS (dBin fIxS (dVar 0) (dC (.int 0))) (dBin fIxS (dVar 0) (dC (.int 1)))) (tName 2))
    (dSeq (dSetS (dBin fAdd (dBin fIxS (dVar 0) (dC (.int 1))) (dC (.int 1))) (dVar 0) (dC (.int 1)))
    (dIfS (dTest (dBin (fCmp fun i j => decide (j ≤ i)) (dVar 2) (dBin fPow (dC (.int 10)) (dC (.int 18))))) (dSetS (dVar 2) (dVar 0) (dC (.int 2))) (dSetS (dBin fMod (dCall fInt (dCons (dBin fAdd (dBin fAdd (dBin fMul (dBin fIxS (dVar 0) (dC (.int 3))) (dC (.int 45053))) (dBin fMul (dBin fMod (dCall fInt (dCons (dVar 2) dNil)) (dC (.int 2147483563))) (dC (.int 50033)))) (dC (.int 67))) dNil)) (dC (.int 2147483587))) (dVar 0) (dC (.int 3)))))) dSkip) [.v (.obj j), .v (.int n), .no, .no, .no] (μ.set j (.src s)) = some (.val .nx, [.v (.obj j), .v (.int n), x, .no, .no], (μ.set j (.src s1))) := by
    by_cases hc : (decide (s.big = 0) && decide (s.at_ < s.cells.length)) = true
    · have hc' : s.big = 0 ∧ s.at_ < s.cells.length := by simpa using hc
      obtain ⟨c, e1, e2⟩ := ix_intsD s.cells s.at_ hs.a0 hc'.2
      by_cases hg : 1000000000000000000 ≤ c
      · refine ⟨.v (.int c), { s with at_ := s.at_ + 1, big := c }, ⟨hs.sz, by have := hs.a0; show 0 ≤ s.at_ + 1; omega, hs.s0, hs.s1⟩, ?_⟩
        refine ifs_t (μ' := (μ.set j (.src s))) (by rw [hT, hc]) ?_
        simp only [dSeq, dIfS, bindS, dSetS, fSetS, dAsg, tName, nobor, fIx, dTest, fTest, dBin, dC, dVar, bindR, Dv.ret, hold, fIxS, dCall, dCons, dNil, fLen, fCmp, fAdd, fpow_1018, gj, sj, List.getElem?_cons_zero, List.getElem?_cons_succ, List.set_cons_zero, List.set_cons_succ, sg1, sg2, sg3, sg4, ss1, ss2, ss3, ss4, sg0 s hz, e1, hg, decide_true, if_true]
      · refine ⟨.v (.int c), { s with at_ := s.at_ + 1, seed := (s.seed * 45053 + c % 2147483563 * 50033 + 67) % 2147483587 }, ⟨hs.sz, by have := hs.a0; show 0 ≤ s.at_ + 1; omega, by show 0 ≤ _ % 2147483587; omega, by show _ % 2147483587 < _; omega⟩, ?_⟩
        refine ifs_t (μ' := (μ.set j (.src s))) (by rw [hT, hc]) ?_
        simp only [dSeq, dIfS, bindS, dSetS, fSetS, dAsg, tName, nobor, fIx, dTest, fTest, dBin, dC, dVar, bindR, Dv.ret, hold, fIxS, dCall, dCons, dNil, fLen, fInt, fCmp, fAdd, fpow_1018, gj, sj, List.getElem?_cons_zero, List.getElem?_cons_succ, List.set_cons_zero, List.set_cons_succ, sg1, sg2, sg3, sg4, ss1, ss2, ss3, ss4, sg0 s hz, e1, hg, decide_true, decide_false, if_true, if_false, Bool.false_eq_true, fmul_int _ 45053 _ (by decide), fmul_int _ 50033 _ (by decide), fmod_int _ 2147483587 _ (by decide), fmod_int _ 2147483563 _ (by decide)]
    · refine ⟨.no, s, hs, ?_⟩
      refine ifs_f (μ' := (μ.set j (.src s))) (by rw [hT, Bool.eq_false_iff.mpr hc]) rfl
  obtain ⟨x, s1, hs1, e1⟩ := h2
  by_cases hb : 0 < s1.big
  · refine ⟨s1.big % n, { s1 with big := s1.big / n }, [.v (.obj j), .v (.int n), x, .v (.int (s1.big % n)), .no], ?_, Int.emod_nonneg _ (by omega), Int.emod_lt_of_pos _ h0, ⟨hs1.sz, hs1.a0, hs1.s0, hs1.s1⟩⟩
    refine seq_nx e1 (seq_ret (d := .int (s1.big % n)) (ifs_t (μ' := (μ.set j (.src s1))) ?_ ?_))
    · simp only [dTest, fTest, dBin, dC, dVar, bindR, Dv.ret, hold, fIxS, fCmp, gj, sj, List.getElem?_cons_zero, List.getElem?_cons_succ, sg2, hb, decide_true]
    · simp only [dSeq, dRet, unbor, bindS, dSetS, fSetS, dAsg, tName, nobor, dBin, dC, dVar, bindR, Dv.ret, hold, fIxS, dCall, dCons, dNil, fInt, gj, sj, List.getElem?_cons_zero, List.getElem?_cons_succ, List.set_cons_zero, List.set_cons_succ, sg2, ss2, if_true, fmod_int _ n _ h0, fdiv_int _ n _ h0 h1]
  · refine ⟨((s1.seed * s1.seed + s1.seed * 33023 + (s1.cnt + 1) * 1299709 + 85571) % 2147483587 / 71 + (s1.seed * s1.seed + s1.seed * 33023 + (s1.cnt + 1) * 1299709 + 85571) % 2147483587 % 7907 * 59) % n, { s1 with cnt := s1.cnt + 1, seed := (s1.seed * s1.seed + s1.seed * 33023 + (s1.cnt + 1) * 1299709 + 85571) % 2147483587 }, [.v (.obj j), .v (.int n), x, .no, .v (.int s1.seed)], ?_, ?_, ?_, ⟨hs1.sz, hs1.a0, ?_, ?_⟩⟩
    refine seq_nx e1 (seq_nx (ifs_f (μ' := (μ.set j (.src s1))) (r := some (.val .nx, [.v (.obj j), .v (.int n), x, .no, .no], (μ.set j (.src s1)))) ?_ rfl) ?_)
    · simp only [dTest, fTest, dBin, dC, dVar, bindR, Dv.ret, hold, fIxS, fCmp, gj, sj, List.getElem?_cons_zero, List.getElem?_cons_succ, sg2, hb, decide_false]
    · have q := hs1.s0
      have q2 := hs1.s1
      simp only [dSeq, dRet, unbor, bindS, dSetS, fSetS, dAsg, tName, nobor, dBin, dC, dVar, bindR, Dv.ret, hold, fIxS, dCall, dCons, dNil, fInt, fAdd, gj, sj, List.getElem?_cons_zero, List.getElem?_cons_succ, List.set_cons_zero, List.set_cons_succ, sg3, sg4, ss3, ss4, if_true, fmul_int _ s1.seed _ (by omega), fmul_int _ 33023 _ (by decide), fmul_int _ 1299709 _ (by decide), fmul_int _ 59 _ (by decide), fmod_int _ 2147483587 _ (by decide), fmod_int _ 7907 _ (by decide), fdiv_int _ 71 _ (by decide) (by decide), fmod_int _ n _ h0]
    · exact Int.emod_nonneg _ (by omega)
    · exact Int.emod_lt_of_pos _ h0
    · exact Int.emod_nonneg _ (by decide)
    · exact Int.emod_lt_of_pos _ (by decide)

theorem of_okJ (j : Nat) (μ : Mu) (hj : j < μ.length) (s : Src) (l : List D) (hs : OkS s) (hl : 0 < l.length) (hz : l.length ≤ 1000) (hn : ∀ d ∈ l, nobor d = true) (hn2 : ∀ d ∈ l, unbor d = d) : ∃ d s', d ∈ l ∧ mOf [.obj j, .lst l] (μ.set j (.src s)) = some (.val d, (μ.set j (.src s'))) ∧ OkS s' := by
  obtain ⟨r, s', e, r0, r1, ho⟩ := draw_okJ j μ hj s l.length hs (by omega) (by omega)
  have hr : r.toNat < l.length := by omega
  refine ⟨l[r.toNat], s', List.getElem_mem hr, ?_, ho⟩
  refine def_ret (env := [.v (.obj j), .v (.lst l)]) ?_ (hn _ (List.getElem_mem hr))
  show bOf [.v (.obj j), .v (.lst l)] (μ.set j (.src s)) = _
  have e2 : atI l r = some l[r.toNat] := by rw [atI_of r0 r1]; simp [hr]
  simp only [bOf, dRet, bindS, dBin, dVar, dCall, dCons, dNil, fLen, bindR, Dv.ret, hold, List.getElem?_cons_zero, List.getElem?_cons_succ, fCall, List.length_cons, List.length_nil, List.all_cons, List.all_nil, nobor, Bool.and_self, and_self, if_true, e, fIxS, fIx, e2, hn2 _ (List.getElem_mem hr), Nat.zero_add, Nat.reduceAdd]
end Dv

/-! DwW: the laws' two helpers of errors: the fields of an error, why a call ends. -/
namespace Dv
open PySem PySem.Spec PyProof.Rows L2
/-! ### room within a suite -/
theorem unitsF {k : Nat} {A : Around} (h : RoomF k A) : A.units + 64 < cLine := by have := h.many; omega
theorem Room.suite {k : Nat} {A : Around} {v : Option Value} (r : Room (k + 1) A) (env : Env) : RoomF k ((A.deeper env).mark v) := by
  have h := (RoomF.of r).inner env
  exact ⟨h.deep, h.many⟩
/-! ### which classes have which field -/
/-- l: the classes that may be met, each with its field -/
def fcs (l : List (Str × Option Str)) (f : Str) : List Str := if f = "code" then l.map (·.1) else (l.filter fun z => decide (z.2 = some f)).map (·.1)
structure ErrFs (K : PySem.W.Frag) (mg : Str → Option Value) (fc : Str → List Str) : Prop where
  code : ErrF K mg (fc "code") "code"
  given : ErrF K mg (fc "given") "given"
  at_ : ErrF K mg (fc "at") "at"
  name : ErrF K mg (fc "name") "name"
  most : ErrF K mg (fc "most") "most"
  cost : ErrF K mg (fc "cost") "cost"
  line : ErrF K mg (fc "line") "line"
/-! ### _law_field -/
def bField (fc : Str → List Str) : DSt :=
  (dSeq (dIfS (dTest (dBin (fInS false) (dAttr (fc "code") "code" (dVar 0)) (dTup (dCons (dC (.str "InvalidPrime")) (dCons (dC (.str "InvalidLength")) (dCons (dC (.str "InvalidNumber")) (dCons (dC (.str "InvalidSchedule")) (dCons (dC (.str "InvalidCall")) (dCons (dC (.str "NotCallable")) (dCons (dC (.str "InvalidFate")) (dCons (dC (.str "InvalidKey")) dNil))))))))))) (dRet (dTup (dCons (dAttr (fc "given") "given" (dVar 0)) dNil))) dSkip)
  (dSeq (dIfS (dTest (dBin (fInS false) (dAttr (fc "code") "code" (dVar 0)) (dTup (dCons (dC (.str "InvalidRow")) (dCons (dC (.str "NoChain")) (dCons (dC (.str "NoRing")) dNil)))))) (dRet (dTup (dCons (dAttr (fc "at") "at" (dVar 0)) dNil))) dSkip)
  (dSeq (dIfS (dTest (dBin (fInS false) (dAttr (fc "code") "code" (dVar 0)) (dTup (dCons (dC (.str "InvalidName")) (dCons (dC (.str "DuplicateName")) (dCons (dC (.str "Unservable")) (dCons (dC (.str "Overlost")) (dCons (dC (.str "UnknownReceiver")) dNil)))))))) (dRet (dTup (dCons (dAttr (fc "name") "name" (dVar 0)) dNil))) dSkip)
  (dSeq (dIfS (dTest (dBin (fInS false) (dAttr (fc "code") "code" (dVar 0)) (dTup (dCons (dC (.str "TooMany")) (dCons (dC (.str "Beyond")) dNil))))) (dRet (dTup (dCons (dAttr (fc "most") "most" (dVar 0)) dNil))) dSkip)
  (dSeq (dIfS (dTest (dBin fEq (dAttr (fc "code") "code" (dVar 0)) (dC (.str "NotBarred")))) (dRet (dTup (dCons (dAttr (fc "cost") "cost" (dVar 0)) dNil))) dSkip)
  (dRet (dIf (dTest (dBin fEq (dAttr (fc "code") "code" (dVar 0)) (dC (.str "InvalidText")))) (dTup (dCons (dAttr (fc "line") "line" (dVar 0)) dNil)) (dTup dNil))))))))
def mField (fc : Str → List Str) : Fn := cleanD (defD 1 (bField fc))
/-! ### _law_why -/
def bWhy (fc : Str → List Str) (A : DEx) : DSt :=
  dTry (fc "code") 1 (dRet (dTup (dCons (dC (.str "told")) (dCons A dNil)))) (dRet (dBin fAdd (dTup (dCons (dAttr (fc "code") "code" (dVar 1)) dNil)) (dCall (fCall 1 (valOnly (mField fc))) (dCons (dVar 1) dNil))))
def mWhy (fc : Str → List Str) (ask : Mu → Res D) : Mu → Res D := fun μ => cleanD (defD 2 (bWhy fc (fun _ μ => ask μ))) [.non] μ
end Dv

/-! DwX: own errors by the text of the program: short forms for printed texts. -/
namespace Dv
open PySem PySem.Spec PyProof.Rows L2
def clsBody : Stmt → List Stmt
  | .ClassDef _ _ _ b _ _ _ _ _ _ _ => b
  | _ => []
theorem SupD.binds {P : Program} {K : PySem.W.Frag} {x qual : Str} {params : Arguments} {body : List Stmt} {scope : Scope} {f : Addr} {fd : FuncData} {D : Addr} {ps : List Str} (F : SupD P K x qual params body scope f fd D)
    (h : ∀ (kV doc pm : Value) (an : Option Addr) (cd ct : Value) (cc : Addr) (us : List Value), us.length = ps.length → bindArgs (PySem.W.ksFn x qual params body scope .none kV doc pm an cd ct cc) ⟨us, []⟩ = pure (ps.zip us)) : Binds K fd ps [] := by
  obtain ⟨oc, od, kV, doc, pm, an, cda, ct, osl, cc, cl, cld, csl, ccl, cdd, vs, ccs, file, tf, rfl, _⟩ := F.ex
  exact .all (h kV doc pm an _ ct cc)
/-- all checks of a one-field error of this name, in this order: SupC, init, no class attribute "code", nor the field, reading -/
def errBs (b : EBase) (c f : Str) : List (PySem.W.Frag → Bool) := [fun K => supB b K (He.ga K c) (He.ga K c), iniB c, noB c "code", noB c f, fun K => L2.xfB K (He.ga K c)]
theorem SaysB.chkM {file : Str} {fa : List He.Fa} {fn : List He.DefD} {fc : List ClD} {bs : List (PySem.W.Frag → Bool)} {K : PySem.W.Frag} (c : SaysB file fa fn fc bs K) {b : PySem.W.Frag → Bool} (h : b ∈ bs) : b K = true :=
  List.all_eq_true.mp (congrArg Prod.snd c.eq : (bs.all fun b => b K) = true) b h
structure ErrOk (K : PySem.W.Frag) (b : EBase) (c f : Str) : Prop where
  sup : SupC K (He.ga K c) (He.ga K c) b
  ini : PySem.W.findIn K (.ref (He.ga K c)) "__init__" = some (some (.ref (He.fAd K (c, some "__init__")))) ∧ PySem.W.typeIn K (.ref (He.fAd K (c, some "__init__"))) = some (.type "function")
  no1 : PySem.W.findIn K (.ref (He.ga K c)) "code" = some none
  no2 : PySem.W.findIn K (.ref (He.ga K c)) f = some none
  xf : XfC K (He.ga K c)
theorem errOk_of {K : PySem.W.Frag} {b : EBase} {c f : Str} (h : ∀ z ∈ errBs b c f, z K = true) : ErrOk K b c f :=
  ⟨supB_ok (h (fun K => supB b K (He.ga K c) (He.ga K c)) (by simp [errBs])), iniB_ok (h (iniB c) (by simp [errBs])), noB_ok (h (noB c "code") (by simp [errBs])), noB_ok (h (noB c f) (by simp [errBs])), L2.xfB_ok (h (fun K => L2.xfB K (He.ga K c)) (by simp [errBs]))⟩
end Dv

/-! DwY: isinstance of an own error; classes as values. -/
namespace Dv
open PySem PySem.Spec PyProof.Rows L2
/-- what isinstance asks of an own error class -/
structure ExcI (K : PySem.W.Frag) (C : Addr) : Prop where
  cl : (PySem.W.clsIn K C).isSome = true
  ga : PySem.W.findIn K (.ref C) "__getattribute__" = some (some (.builtin "BaseException.__getattribute__"))
  gt : PySem.W.findIn K (.ref C) "__getattr__" = some none
  be : PySem.W.subIn K (.ref C) (.type "BaseException") = some true
  ca : PySem.W.findIn K (.ref C) "__class__" = some (some (.builtin "object.__class__"))
  cg : PySem.W.specialIn K (.builtin "object.__class__") "__get__" = some (some (.builtin "getset_descriptor.__get__"))
  ct : PySem.W.takesIn K (.builtin "object.__class__") = some true
  ob : PySem.W.mroIn K C (.type "object") = some true
section
variable {X : Cx} {B : Bs} {W : WX}
/-- the classes cs of errors, over the classes xs and the built-in ones ts: anc tells a class's ancestors -/
structure IsiF (K : PySem.W.Frag) (mg : Str → Option Value) (cs xs : List Str) (ts : List String) (anc : Str → List Str) : Prop where
  ok : ∀ c ∈ cs, ∃ C : Addr, mg c = some (.ref C) ∧ ExcI K C ∧ (∀ x ∈ xs, ∃ D : Addr, mg x = some (.ref D) ∧ PySem.W.kitOne K (.ref C) (.ref D) = some (decide (x ∈ anc c))) ∧ ∀ t ∈ ts, PySem.W.kitOne K (.ref C) (.type t) = some (decide (Str.ofString t ∈ anc c))
end
end Dv

/-! DwZ: instances of own classes as deep values: their fields, their making, methods. -/
namespace Dv
open PySem PySem.Spec PyProof.Rows L2
/-! ### nothing of the store within a value -/
mutual
def noObj : D → Bool
  | .obj _ => false
  | .tup l => noObjs l
  | .lst l => noObjs l
  | .scr l => noObjs l
  | .ins _ fs => noObjF fs
  | .exn _ fs => noObjF fs
  | .clo _ ds => noObjs ds
  | _ => true
def noObjs : List D → Bool
  | [] => true
  | d :: ds => noObj d && noObjs ds
def noObjF : List (Str × D) → Bool
  | [] => true
  | (_, d) :: ds => noObj d && noObjF ds
end
section
variable {T : Tx} {ρ ρ' : List Addr} {G : Hp}
mutual
theorem Rep.off : ∀ {d : D} {v : V}, noObj d = true → Rep T ρ G v d → Rep T ρ' G v d
  | .non, _, _, h => h
  | .bl _, _, _, h => h
  | .int _, _, _, h => h
  | .str _, _, _, h => h
  | .ty _, _, _, h => h
  | .glo _, _, _, h => h
  | .fn _, _, _, h => h
  | .rng _ _, _, _, h => h
  | .lam _ _, _, _, h => h
  | .clo _ ds, v, n, h => by
    unfold noObj at n; unfold Rep at h ⊢
    obtain ⟨f, cl, vs, e, q1, q2, r⟩ := h
    exact ⟨f, cl, vs, e, q1, q2, Reps.off n r⟩
  | .obj _, _, n, _ => by unfold noObj at n; cases n
  | .new _, _, _, h => by unfold Rep at h; exact h.elim
  | .bor _, _, _, h => by unfold Rep at h; exact h.elim
  | .tup l, v, n, h => by
    unfold noObj at n; unfold Rep at h ⊢
    obtain ⟨a, vs, e, q, z, r⟩ := h
    exact ⟨a, vs, e, q, z, Reps.off n r⟩
  | .lst l, v, n, h => by
    unfold noObj at n; unfold Rep at h ⊢
    obtain ⟨a, vs, e, q, z, r⟩ := h
    exact ⟨a, vs, e, q, z, Reps.off n r⟩
  | .scr l, v, n, h => by
    unfold noObj at n; unfold Rep at h ⊢
    obtain ⟨a, vs, e, q, z, r⟩ := h
    exact ⟨a, vs, e, q, z, Reps.off n r⟩
  | .ins c fs, v, n, h => by
    unfold noObj at n; unfold Rep at h ⊢
    obtain ⟨a, C, dx, vf, e, m, q, r⟩ := h
    exact ⟨a, C, dx, vf, e, m, q, RepF.off n r⟩
  | .exn c fs, v, n, h => by
    unfold noObj at n; unfold Rep at h ⊢
    obtain ⟨a, C, dx, vf, e, m, q, q2, r⟩ := h
    exact ⟨a, C, dx, vf, e, m, q, q2, RepF.off n r⟩
theorem Reps.off : ∀ {l : List D} {vs : List V}, noObjs l = true → Reps T ρ G vs l → Reps T ρ' G vs l
  | [], _, _, h => by unfold Reps at h ⊢; exact h
  | d :: ds, vs, n, h => by
    unfold noObjs at n
    rw [Bool.and_eq_true] at n
    unfold Reps at h ⊢
    obtain ⟨v, r, e, q, t⟩ := h
    exact ⟨v, r, e, Rep.off n.1 q, Reps.off n.2 t⟩
theorem RepF.off : ∀ {l : List (Str × D)} {vs : List (Str × V)}, noObjF l = true → RepF T ρ G vs l → RepF T ρ' G vs l
  | [], _, _, h => by unfold RepF at h ⊢; exact h
  | (f, d) :: ds, vs, n, h => by
    unfold noObjF at n
    rw [Bool.and_eq_true] at n
    unfold RepF at h ⊢
    obtain ⟨v, r, e, q, t⟩ := h
    exact ⟨v, r, e, Rep.off n.1 q, RepF.off n.2 t⟩
end
theorem RepF.nil : RepF T ρ G [] [] := by unfold RepF; rfl
theorem RepF.length : ∀ {l : List (Str × D)} {vs : List (Str × V)}, RepF T ρ G vs l → vs.length = l.length
  | [], vs, h => by unfold RepF at h; subst h; rfl
  | (f, d) :: ds, vs, h => by
    unfold RepF at h
    obtain ⟨v, r, rfl, _, t⟩ := h
    simp [RepF.length t]
def putFD (f : Str) (v : D) : List (Str × D) → List (Str × D)
  | [] => [(f, v)]
  | (g, x) :: r => if g = f then (g, v) :: r else (g, x) :: putFD f v r
theorem RepF.put {f : Str} {v : V} {d : D} (h : Rep T ρ G v d) : ∀ {l : List (Str × D)} {vs : List (Str × V)}, RepF T ρ G vs l → RepF T ρ G (putF f v vs) (putFD f d l)
  | [], vs, q => by
    unfold RepF at q; subst q
    exact repF1 h
  | (g, x) :: l, vs, q => by
    unfold RepF at q
    obtain ⟨u, r, rfl, qx, t⟩ := q
    unfold putF putFD
    by_cases e : g = f
    · rw [if_pos e, if_pos e]
      unfold RepF
      exact ⟨v, r, rfl, h, t⟩
    · rw [if_neg e, if_neg e]
      unfold RepF
      exact ⟨u, _, rfl, qx, RepF.put h t⟩
theorem RepF.none {f : Str} : ∀ {l : List (Str × D)} {vs : List (Str × V)}, RepF T ρ G vs l → l.lookup f = none → vs.lookup f = Option.none
  | [], vs, q, _ => by unfold RepF at q; subst q; rfl
  | (g, x) :: l, vs, q, e => by
    unfold RepF at q
    obtain ⟨u, r, rfl, _, t⟩ := q
    unfold List.lookup at e ⊢
    by_cases h : (f == g) = true
    · rw [h] at e; cases e
    · rw [Bool.eq_false_iff.mpr h] at e ⊢
      exact RepF.none t e
end
def muOk (μ : Mu) : Bool := μ.all fun m => match m with
  | .slf _ fs => noObjF fs
  | .mls l => noObjs l
  | _ => true
theorem MR.off {T : Tx} {ρ ρ' : List Addr} {G H : Hp} {a : Addr} {m : MObj} (r : MR T ρ G H a m) (n : muOk [m] = true) : MR T ρ' G H a m := by
  cases m with
  | slf c fs =>
    obtain ⟨C, dx, vf, e0, e1, e2⟩ := r
    have n : (noObjF fs && true) = true := n
    rw [Bool.and_true] at n
    exact ⟨C, dx, vf, e0, e1, e2.off n⟩
  | mls l =>
    obtain ⟨vs, e1, e2, z⟩ := r
    have n : (noObjs l && true) = true := n
    rw [Bool.and_true] at n
    exact ⟨vs, e1, e2.off n, z⟩
  | src s => exact r
  | tab p q => exact r
/-! ### fields -/
structure ClsF (K : PySem.W.Frag) (mg : Str → Option Value) (cs : List Str) (f : Str) : Prop where
  ok : ∀ c ∈ cs, ∃ C : Addr, mg c = some (.ref C) ∧ Cls K C ∧ NoAttr K C f
section
variable {X : Cx} {B : Bs} {W : WX} {e o : Expr} {es : List Expr} {m me mo : DEx} {p p' pos apos : Pos} {cs : List Str} {f : Str}
end
end Dv

/-! DwZA: instances are made; their methods are called. -/
namespace Dv
open PySem PySem.Spec PyProof.Rows L2
section
variable {X : Cx} {CX : CXT} {k : Nat} {C fI : Addr} {fd : FuncData} {ps : List Str} {sp : Sp} {E : L2.St → XK}
end
/-- such a class by its name -/
structure MkC (P : Program) (w : World) (K : PySem.W.Frag) (mg : Str → Option Value) (base : Heap) (c : Str) (ps : List Str) (k : Nat) (m : Fn) : Prop where
  ex : ∃ (C fI : Addr) (fd : FuncData), mg c = some (.ref C) ∧ Mk K C fI ∧ Binds K fd ps [] ∧ FnOk P w K mg base (L2.CX P w) k fI fd ps (spD ⟨K, mg⟩ ps.length m)
theorem muOk_get {μ : Mu} {k : Nat} {m : MObj} (h : muOk μ = true) (e : μ[k]? = some m) : muOk [m] = true := by
  unfold muOk at h ⊢
  have q := List.all_eq_true.mp h m (List.mem_of_getElem? e)
  simp only [List.all_cons, List.all_nil, Bool.and_true]
  exact q
section
variable {T : Tx} {B : Bs} {W : WX} {ρ : List Addr} {G H : Hp} {σ : L2.St} {env : DEnv} {μ : Mu} {Q : VK}
end
section
variable {X : Cx} {B : Bs} {W : WX} {e o : Expr} {es : List Expr} {p pos apos : Pos}
/-! ### methods -/
structure MethC (P : Program) (w : World) (K : PySem.W.Frag) (mg : Str → Option Value) (base : Heap) (c m : Str) (ps : List Str) (k : Nat) (fn : Fn) : Prop where
  ex : ∃ (C g : Addr) (fd : FuncData), mg c = some (.ref C) ∧ Cls K C ∧ Meth K C m g ∧ Binds K fd ps [] ∧ FnOk P w K mg base (L2.CX P w) k g fd ps (spD ⟨K, mg⟩ ps.length fn)
/-! ### properties -/
structure PropC (P : Program) (w : World) (K : PySem.W.Frag) (mg : Str → Option Value) (base : Heap) (c f : Str) (k : Nat) (fn : Fn) : Prop where
  ex : ∃ (C p g : Addr) (fd : FuncData) (ps : List Str), mg c = some (.ref C) ∧ Cls K C ∧ PropOf K C f p g ∧ ps.length = 1 ∧ Binds K fd ps [] ∧ FnOk P w K mg base (L2.CX P w) k g fd ps (spD ⟨K, mg⟩ 1 fn)
end
end Dv

/-! DwZB: comprehensions with two sources. -/
namespace Dv
open PySem PySem.Spec PyProof.Rows L2
section
variable {X : Cx} {B : Bs} {W : WX}
theorem rd_lcIn {J : It} {g : TG} {tg : DTg} {is : List Nat} {tt : DEnv → Mu → Res Bool} {el : DEx} {vs : List Nat} {ρ1 : List Addr} {G1 H1 : Hp} {σ : L2.St} {env : DEnv} {μ1 μf : Mu} {ds l acc0 : List D} {us0 : List V} {Q : Hp → Prop} {T : Tx} {D : Addr}
    (gd : GD T.K T.mg g tg is) (his : ∀ i ∈ is, i ∈ vs) (no : noOwn env vs = true) (R1 : RD T (B.add D us0) ρ1 G1 H1 σ env μ1) (ra0 : Reps T ρ1 G1 us0 acc0) (hz : szl (acc0.length + l.length)) (wk : WalkD T J ρ1 G1 ds) (hr : lcRun tg tt el (wipeD env vs) ds μ1 = some (l, μf))
    (fin : ∀ ρ' G' H' us', Same G1 G' → Pre ρ1 ρ' → RD T (B.add D us') ρ' G' H' σ env μf → Reps T ρ' G' us' (acc0 ++ l) → Q H') :
    ∃ W : Nat → Nat → Hp → Prop, (∃ m, W 0 m H1) ∧ ∀ i m H, W i m H →
      (J.stop i H ∧ Q H) ∨ (J.go i H ∧ ∃ Nx : Hp → Prop, (∀ H', Nx H' → ∃ m', m' < m ∧ W (i + 1) m' H') ∧ ∀ x H', J.yld i H x H' → g x (wipe σ vs) H' fun σ2 H2 => wipe σ2 vs = wipe σ vs ∧ exT T tt σ2 H2 fun b H3 =>
        if b = true then exE T el σ2 H3 fun y H4 => ∃ acc, H4 D = some (.lst acc) ∧ acc.length < sizeLine ∧ Nx (upd H4 D (.lst (acc ++ [y]))) else Nx H3) := by
  refine ⟨fun i m H' => ∃ ρ' G' μ' us acc rest, m = ds.length - i ∧ i ≤ ds.length ∧ Same G1 G' ∧ Pre ρ1 ρ' ∧ RD T (B.add D us) ρ' G' H' σ env μ' ∧ Reps T ρ' G' us acc ∧ lcRun tg tt el (wipeD env vs) (ds.drop i) μ' = some (rest, μf) ∧ acc ++ rest = acc0 ++ l, ⟨ds.length, ρ1, G1, μ1, us0, acc0, l, by omega, Nat.zero_le _, fun _ _ h => h, .refl _, R1, ra0, hr, rfl⟩, ?_⟩
  rintro i m H' ⟨ρ', G', μ', us, acc, rest, rfl, hi, s, p, R, ra, hrun, hl⟩
  by_cases hlt : i < ds.length
  · have hd : ds[i]? = some ds[i] := by simp [hlt]
    obtain ⟨jg, jy⟩ := wk.go i _ hd ρ' G' H' s p R.gh
    refine .inr ⟨jg, fun H'' => ∃ ρ2 G2 μ2 us2 acc2 rest2, Same G1 G2 ∧ Pre ρ1 ρ2 ∧ RD T (B.add D us2) ρ2 G2 H'' σ env μ2 ∧ Reps T ρ2 G2 us2 acc2 ∧ lcRun tg tt el (wipeD env vs) (ds.drop (i + 1)) μ2 = some (rest2, μf) ∧ acc2 ++ rest2 = acc0 ++ l,
      fun H'' ⟨ρ2, G2, μ2, us2, acc2, rest2, h1, h2, h3, h4, h6, h7⟩ => ⟨ds.length - (i + 1), by omega, ρ2, G2, μ2, us2, acc2, rest2, rfl, hlt, h1, h2, h3, h4, h6, h7⟩, fun x H'' hy => ?_⟩
    have item : ∃ G2, Same G' G2 ∧ RD T (B.add D us) ρ' G2 H'' σ env μ' ∧ Rep T ρ' G2 x ds[i] := by
      rcases jy x H'' hy with ⟨e, r⟩ | ⟨q, ws, l', hn, e, ex, ed, r, z⟩
      · exact ⟨G', fun _ _ h => h, by rw [e]; exact R, r⟩
      · have gn := (R.fresh_ hn).1
        exact ⟨_, same_upd gn, by rw [e]; exact R.alloc hn, by rw [ex, ed]; exact rep_tup (.inl upd_same) z (r.mono (same_upd gn) (.refl _))⟩
    obtain ⟨G2, s2, R2, rx⟩ := item
    rw [List.drop_eq_getElem_cons hlt] at hrun
    unfold lcRun at hrun
    split at hrun
    · cases hrun
    · rename_i env1 he1
      have hout := gd.out _ _ _ he1
      refine gd.ok (B.add D us) ρ' G2 H'' (wipe σ vs) (wipeD env vs) μ' x _ env1 _ (R2.wipe vs) rx he1 fun σ2 R3 hw ho => ⟨by rw [hw vs his]; exact wipe_wipe, ?_⟩
      have agE : ∀ j, j ∉ vs → env1[j]? = env[j]? := fun j hj => by rw [hout j fun m => hj (his j m), wipeD_out hj]
      have agS : ∀ j, j ∉ vs → σ2[j]? = σ[j]? := fun j hj => by rw [ho j fun m => hj (his j m), wipe_out hj]
      split at hrun
      · rename_i μ2 ht
        refine ⟨B.add D us, ρ', G2, env1, μ', R3, ?_⟩
        rw [ht]
        intro ρ3 G3 H3 s3 p3 R4
        show (if true = true then _ else _)
        rw [if_pos rfl]
        split at hrun
        · rename_i d' μ3 he
          split at hrun
          · rename_i hb
            split at hrun
            · rename_i l3 μ4 hrest
              cases hrun
              refine ⟨B.add D us, ρ3, G3, env1, μ2, R4, ?_⟩
              rw [he]
              intro ρ4 G4 H4 s4 p4 R5 y hy2
              obtain ⟨G5, s5, R6, hh⟩ := hy2.hold R5
              have ry := hh.rep (hold_nobor hb)
              have S : Same G' G5 := ((s2.trans s3).trans s4).trans s5
              have P : Pre ρ' ρ4 := p3.trans p4
              have R7 : RD T (B.add D us) ρ4 G5 H4 σ env μ3 := R.back R6 S P no agE agS
              have hD4 := R7.delX.2.1
              have hul : us.length = acc.length := ra.length
              have hll := congrArg List.length hl
              simp at hll
              refine ⟨us, hD4, szl_line' (by omega : us.length < acc0.length + l.length) hz, ρ4, G5, μ3, us ++ [y], acc ++ [Dv.hold d'], l3, s.trans S, p.trans P, R7.updX, (ra.mono S P).append (.one ry), hrest, by rw [← hl]; simp⟩
            · cases hrun
          · cases hrun
        · cases hrun
      · rename_i μ2 ht
        refine ⟨B.add D us, ρ', G2, env1, μ', R3, ?_⟩
        rw [ht]
        intro ρ3 G3 H3 s3 p3 R4
        show (if false = true then _ else _)
        rw [if_neg (by decide)]
        have S : Same G' G3 := s2.trans s3
        exact ⟨ρ3, G3, μ2, us, acc, rest, s.trans S, p.trans p3, R.back R4 S p3 no agE agS, ra.mono S p3, hrun, hl⟩
      · cases hrun
  · have e : i = ds.length := by omega
    subst e
    rw [List.drop_length] at hrun
    unfold lcRun at hrun
    cases hrun
    refine .inl ⟨wk.stop ρ' G' H' s p R.gh, ?_⟩
    rw [List.append_nil] at hl
    subst hl
    exact fin ρ' G' H' us s p R ra
def lc2Run (tg : DTg) (tt : DEnv → Mu → Res Bool) (it1 : DEnv → Mu → Res (List D)) (vs1 : List Nat) (tg1 : DTg) (tt1 : DEnv → Mu → Res Bool) (el : DEx) (env : DEnv) : List D → Mu → Option (List D × Mu)
  | [], μ => some ([], μ)
  | d :: ds, μ => match tg env d with
    | none => none
    | some env1 => match tt env1 μ with
      | some (.val true, μ1) => (match it1 env1 μ1 with
        | some (.val ds1, μ2) => if noOwn env1 vs1 then (match lcRun tg1 tt1 el (wipeD env1 vs1) ds1 μ2 with
          | some (l1, μ3) => (match lc2Run tg tt it1 vs1 tg1 tt1 el env ds μ3 with
            | some (l, μ4) => some (l1 ++ l, μ4)
            | none => none)
          | none => none) else none
        | _ => none)
      | some (.val false, μ1) => lc2Run tg tt it1 vs1 tg1 tt1 el env ds μ1
      | _ => none
def lc2Fin (tg : DTg) (tt : DEnv → Mu → Res Bool) (it1 : DEnv → Mu → Res (List D)) (vs1 : List Nat) (tg1 : DTg) (tt1 : DEnv → Mu → Res Bool) (el : DEx) (env : DEnv) (ds : List D) (μ : Mu) : Res D := match lc2Run tg tt it1 vs1 tg1 tt1 el env ds μ with
  | some (l, μ1) => if szl l.length then ret (.new l) μ1 else none
  | none => none
def dLc2 (it : DEnv → Mu → Res (List D)) (own : List Nat) (tg : DTg) (tt : DEnv → Mu → Res Bool) (it1 : DEnv → Mu → Res (List D)) (vs1 : List Nat) (tg1 : DTg) (tt1 : DEnv → Mu → Res Bool) (el : DEx) : DEx := fun env μ =>
  if noOwn env own then bindR (it env μ) (lc2Fin tg tt it1 vs1 tg1 tt1 el (wipeD env own)) else none
def exI (T : Tx) (it : DEnv → Mu → Res (List D)) : TI := fun σ H R => ∃ B', rdI T B' W0 it σ H R
theorem pi_ex {Y : Cx} {t e : Expr} {it : DEnv → Mu → Res (List D)} (h : ∀ B, DI Y B W0 t e it) : PI Y t e (exI (tx Y) it) := ⟨fun pins s σ H Q I ⟨B', q⟩ => (h B').run.run pins s σ H Q I q⟩
theorem rd_lc2 {J : It} {g g1 : TG} {tg tg1 : DTg} {is is1 : List Nat} {tt tt1 : DEnv → Mu → Res Bool} {it1 : DEnv → Mu → Res (List D)} {el : DEx} {vs vs1 : List Nat} {ρ1 : List Addr} {G1 H1 : Hp} {σ : L2.St} {env : DEnv} {μ1 μf : Mu} {ds l : List D} {Q : VK} {T : Tx}
    (gd : GD T.K T.mg g tg is) (his : ∀ i ∈ is, i ∈ vs) (gd1 : GD T.K T.mg g1 tg1 is1) (his1 : ∀ i ∈ is1, i ∈ vs1) (no : noOwn env vs = true) (hz : szl l.length) (R1 : RD T B ρ1 G1 H1 σ env μ1) (wk : WalkD T J ρ1 G1 ds) (hr : lc2Run tg tt it1 vs1 tg1 tt1 el (wipeD env vs) ds μ1 = some (l, μf))
    (fin : ∀ ρ' G' H' v, Same G1 G' → Pre ρ1 ρ' → RD T B ρ' G' H' σ env μf → RepX T B ρ' G' H' σ env v (.new l) → Q v H') (D : Addr) (hD : H1 D = none) :
    ∃ W : Nat → Nat → Hp → Prop, (∃ m, W 0 m (upd H1 D (.lst []))) ∧ ∀ i m H, W i m H →
      (J.stop i H ∧ Q (.ref D) H) ∨ (J.go i H ∧ ∃ Nx : Hp → Prop, (∀ H', Nx H' → ∃ m', m' < m ∧ W (i + 1) m' H') ∧ ∀ x H', J.yld i H x H' → g x (wipe σ vs) H' fun σ2 H2 => wipe σ2 vs = wipe σ vs ∧ exT T tt σ2 H2 fun b H3 =>
        if b = true then exI T it1 σ2 H3 fun J1 H4 => ∃ W1 : Nat → Nat → Hp → Prop, (∃ m, W1 0 m H4) ∧ ∀ j k H, W1 j k H →
          (J1.stop j H ∧ Nx H) ∨ (J1.go j H ∧ ∃ Nx1 : Hp → Prop, (∀ H', Nx1 H' → ∃ k', k' < k ∧ W1 (j + 1) k' H') ∧ ∀ x H', J1.yld j H x H' → g1 x (wipe σ2 vs1) H' fun σ3 H5 => wipe σ3 vs1 = wipe σ2 vs1 ∧ exT T tt1 σ3 H5 fun b H6 =>
            if b = true then exE T el σ3 H6 fun y H7 => ∃ acc, H7 D = some (.lst acc) ∧ acc.length < sizeLine ∧ Nx1 (upd H7 D (.lst (acc ++ [y]))) else Nx1 H6)
        else Nx H3) := by
  obtain ⟨gD, pD, bD⟩ := R1.fresh_ hD
  refine ⟨fun i m H' => ∃ ρ' G' μ' us acc rest, m = ds.length - i ∧ i ≤ ds.length ∧ Same G1 G' ∧ Pre ρ1 ρ' ∧ RD T (B.add D us) ρ' G' H' σ env μ' ∧ Reps T ρ' G' us acc ∧ lc2Run tg tt it1 vs1 tg1 tt1 el (wipeD env vs) (ds.drop i) μ' = some (rest, μf) ∧ acc ++ rest = l, ⟨ds.length, ρ1, G1, μ1, [], [], l, by omega, Nat.zero_le _, fun _ _ h => h, .refl _, ?_, .nil, hr, rfl⟩, ?_⟩
  · refine (R1.allocN hD).addX upd_same gD pD bD (fun i l' e1 e2 => ?_) fun q hq e => ?_
    · obtain ⟨q, us, e3, e4, _⟩ := R1.slot i _ e1
      rw [e2] at e3; cases e3
      rw [hD] at e4; cases e4
    · have e1 := (R1.xo q hq).1
      rw [e, hD] at e1; cases e1
  · rintro i m H' ⟨ρ', G', μ', us, acc, rest, rfl, hi, s, p, R, ra, hrun, hl⟩
    by_cases hlt : i < ds.length
    · have hd : ds[i]? = some ds[i] := by simp [hlt]
      obtain ⟨jg, jy⟩ := wk.go i _ hd ρ' G' H' s p R.gh
      refine .inr ⟨jg, fun H'' => ∃ ρ2 G2 μ2 us2 acc2 rest2, Same G1 G2 ∧ Pre ρ1 ρ2 ∧ RD T (B.add D us2) ρ2 G2 H'' σ env μ2 ∧ Reps T ρ2 G2 us2 acc2 ∧ lc2Run tg tt it1 vs1 tg1 tt1 el (wipeD env vs) (ds.drop (i + 1)) μ2 = some (rest2, μf) ∧ acc2 ++ rest2 = l,
        fun H'' ⟨ρ2, G2, μ2, us2, acc2, rest2, h1, h2, h3, h4, h6, h7⟩ => ⟨ds.length - (i + 1), by omega, ρ2, G2, μ2, us2, acc2, rest2, rfl, hlt, h1, h2, h3, h4, h6, h7⟩, fun x H'' hy => ?_⟩
      have item : ∃ G2, Same G' G2 ∧ RD T (B.add D us) ρ' G2 H'' σ env μ' ∧ Rep T ρ' G2 x ds[i] := by
        rcases jy x H'' hy with ⟨e, r⟩ | ⟨q, ws, l', hn, e, ex, ed, r, z⟩
        · exact ⟨G', fun _ _ h => h, by rw [e]; exact R, r⟩
        · have gn := (R.fresh_ hn).1
          exact ⟨_, same_upd gn, by rw [e]; exact R.alloc hn, by rw [ex, ed]; exact rep_tup (.inl upd_same) z (r.mono (same_upd gn) (.refl _))⟩
      obtain ⟨G2, s2, R2, rx⟩ := item
      rw [List.drop_eq_getElem_cons hlt] at hrun
      unfold lc2Run at hrun
      split at hrun
      · cases hrun
      · rename_i env1 he1
        have hout := gd.out _ _ _ he1
        refine gd.ok (B.add D us) ρ' G2 H'' (wipe σ vs) (wipeD env vs) μ' x _ env1 _ (R2.wipe vs) rx he1 fun σ2 R3 hw ho => ⟨by rw [hw vs his]; exact wipe_wipe, ?_⟩
        have agE : ∀ j, j ∉ vs → env1[j]? = env[j]? := fun j hj => by rw [hout j fun m => hj (his j m), wipeD_out hj]
        have agS : ∀ j, j ∉ vs → σ2[j]? = σ[j]? := fun j hj => by rw [ho j fun m => hj (his j m), wipe_out hj]
        split at hrun
        · rename_i μ2 ht
          refine ⟨B.add D us, ρ', G2, env1, μ', R3, ?_⟩
          rw [ht]
          intro ρ3 G3 H3 s3 p3 R4
          show (if true = true then _ else _)
          rw [if_pos rfl]
          split at hrun
          · rename_i ds1 μ3 he
            split at hrun
            · rename_i hno
              split at hrun
              · rename_i l1 μ4 hin
                split at hrun
                · rename_i l3 μ5 hrest
                  cases hrun
                  refine ⟨B.add D us, ρ3, G3, env1, μ2, R4, ?_⟩
                  rw [he]
                  intro ρ4 G4 H4 s4 p4 R5 J1 wk1
                  have S : Same G' G4 := (s2.trans s3).trans s4
                  have P : Pre ρ' ρ4 := p3.trans p4
                  have hll := congrArg List.length hl
                  simp at hll
                  have hz1 : szl (acc.length + l1.length) := Nat.le_trans (by omega) hz
                  refine rd_lcIn gd1 his1 hno R5 (ra.mono S P) hz1 wk1 hin fun ρ5 G5 H5 us5 s5 p5 R6 ra5 => ?_
                  have R7 := R6.delX.1
                  refine ⟨ρ5, G5, μ4, us5, acc ++ l1, l3, s.trans (S.trans s5), p.trans (P.trans p5), ?_, ra5, hrest, by rw [← hl]; simp⟩
                  obtain ⟨R0, h1, h2, h3, h4, h5, h6⟩ := R.delX
                  obtain ⟨Ra, k1, k2, k3, k4, k5, k6⟩ := R6.delX
                  exact (R0.back Ra (S.trans s5) (P.trans p5) no agE agS).addX k1 k2 k3 k4 h5 k6
                · cases hrun
              · cases hrun
            · cases hrun
          · cases hrun
        · rename_i μ2 ht
          refine ⟨B.add D us, ρ', G2, env1, μ', R3, ?_⟩
          rw [ht]
          intro ρ3 G3 H3 s3 p3 R4
          show (if false = true then _ else _)
          rw [if_neg (by decide)]
          have S : Same G' G3 := s2.trans s3
          exact ⟨ρ3, G3, μ2, us, acc, rest, s.trans S, p.trans p3, R.back R4 S p3 no agE agS, ra.mono S p3, hrun, hl⟩
        · cases hrun
    · have e : i = ds.length := by omega
      subst e
      rw [List.drop_length] at hrun
      unfold lc2Run at hrun
      cases hrun
      refine .inl ⟨wk.stop ρ' G' H' s p R.gh, ?_⟩
      obtain ⟨R0, h1, h2, h3, h4, h5, h6⟩ := R.delX
      rw [List.append_nil] at hl
      subst hl
      exact fin ρ' G' H' (.ref D) s p R0 ⟨D, us, rfl, h1, ra, hz, h2, h3, h4, h5, h6⟩
end
end Dv

/-! DwZC: starred displays, sorted. -/
namespace Dv
open PySem PySem.Spec PyProof.Rows L2
section
variable {X : Cx} {B : Bs} {W : WX} {e : Expr} {es : List Expr} {m : DEx} {n : DEnv → Mu → Res (List D)}
/-! ### *e in a display or an argument list -/
def dStar (m : DEx) (n : DEnv → Mu → Res (List D)) : DEnv → Mu → Res (List D) := fun env μ => bindR (m env μ) fun d μ => match seqD (hold d) with
  | some l => bindR (n env μ) fun ds μ => ret (l ++ ds) μ
  | none => none
theorem hreps_app {T : Tx} {ρ : List Addr} {G : Hp} {σ : L2.St} {env : DEnv} {vs us : List V} {l ds : List D} (a : Reps T ρ G vs l) (h : HReps T ρ G σ env us ds) : HReps T ρ G σ env (vs ++ us) (l ++ ds) := by
  induction l generalizing vs with
  | nil => unfold Reps at a; subst a; exact h
  | cons d l ih => obtain ⟨v, t, rfl, q, rs⟩ := a.inv; exact .cons (.of q) (ih rs)
theorem da_star {p : Pos} (h : DE X B W e m) (g : DA X B W es n) (hs : starEach (.Starred e p :: es) X.env = (true, eval e X.env) :: starEach es X.env := by rfl) : DA X B W (.Starred e p :: es) (dStar m n) := by
  refine ⟨paImp (StX.pa_star h.run g.run hs) fun σ H Q ⟨ρ, G, env, μ, R, k⟩ => ?_⟩
  refine rd_then (f := fun d μ => match seqD (hold d) with
    | some l => bindR (n env μ) fun ds μ => ret (l ++ ds) μ
    | none => none) R k fun ρ1 G1 H1 μ1 x d s p R1 hx k1 => ?_
  split at k1
  · rename_i l e1
    obtain ⟨kk, a, vs, rfl, hq, z, rs⟩ := seqD_inv R1 hx e1
    refine ⟨a, vs, rfl, ?_, ρ1, G1, env, μ1, R1, (KE.bind (f := fun ds μ => ret (l ++ ds) μ) k1).imp fun ρ2 G2 H2 μ2 ds s2 p2 R2 k2 ys hys => ?_⟩
    · have := hq G1 H1 (fun _ _ h => h) R1.gh
      cases kk with
      | false => exact .inl this
      | true => exact .inr this
    · exact k2 ρ2 G2 H2 (fun _ _ h => h) (.refl _) R2 _ (hreps_app (rs.mono s2 p2) hys)
  · exact k1.elim
end
/-! ### sorted -/
def insBy {α : Type} (le : α → α → Bool) (a : α) : List α → List α
  | [] => [a]
  | b :: l => if le a b = true then a :: b :: l else b :: insBy le a l
def sortBy {α : Type} (le : α → α → Bool) : List α → List α
  | [] => []
  | a :: l => insBy le a (sortBy le l)
theorem insBy_mid {α : Type} {le : α → α → Bool} {a : α} : ∀ {l1 l2 : List α}, (∀ b, b ∈ l1 → le a b = false) → (∀ b, b ∈ l2 → le a b = true) → insBy le a (l1 ++ l2) = l1 ++ a :: l2
  | [], [], _, _ => rfl
  | [], b :: l2, _, h => by
    show (if le a b = true then a :: b :: l2 else b :: insBy le a l2) = _
    rw [if_pos (h b List.mem_cons_self)]; rfl
  | b :: l1, l2, h1, h2 => by
    show (if le a b = true then a :: b :: (l1 ++ l2) else b :: insBy le a (l1 ++ l2)) = _
    rw [if_neg (by rw [h1 b List.mem_cons_self]; decide), insBy_mid (fun c hc => h1 c (List.mem_cons_of_mem _ hc)) h2]; rfl
theorem sortBy_eq {α : Type} {le : α → α → Bool} (tr : ∀ a b c, le a b = true → le b c = true → le a c = true) (tot : ∀ a b, (le a b || le b a) = true) : ∀ l : List α, sortBy le l = l.mergeSort le
  | [] => by simp [sortBy]
  | a :: l => by
    obtain ⟨l1, l2, e1, e2, h⟩ := List.mergeSort_cons tr tot a l
    have pw := List.pairwise_mergeSort tr tot (a :: l)
    rw [e1] at pw
    show insBy le a (sortBy le l) = _
    rw [sortBy_eq tr tot l, e2, e1]
    refine insBy_mid (fun b hb => by simpa using h b hb) fun b hb => ?_
    exact (List.pairwise_cons.mp (List.pairwise_append.mp pw).2.1).1 b hb
def leD (a b : D) : Bool := !PySem.W.dataLt (toPy b) (toPy a)
def isIntD : D → Bool
  | .int _ => true
  | _ => false
def isStrD : D → Bool
  | .str _ => true
  | _ => false
def isRowD : D → Bool
  | .tup (x :: r) => (x :: r).all isIntD
  | _ => false
def isTup1 : D → Bool
  | .tup (_ :: _) => true
  | _ => false
def isOth : D → Bool
  | .int _ => true
  | .str _ => true
  | .bl _ => true
  | .lst _ => true
  | _ => false
def alikeD (l : List D) : Bool := l.all isIntD || l.all isStrD || l.all isRowD || l.all fun a => l.all fun b => PySem.W.alike (toPy a) (toPy b)
def sortableD (l : List D) : Bool := l.all isTup1 || l.all isOth
def fSorted : FA
  | [d], μ => match seqL d with
    | some l => if l.all (plainD 50) && alikeD l && sortableD l then ret (.new (sortBy leD l)) μ else none
    | none => none
  | _, _ => none
theorem isIntD_inv {d : D} (h : isIntD d = true) : ∃ i, toPy d = .int i := by
  cases d <;> first | (cases h; done) | skip
  exact ⟨_, by unfold toPy; rfl⟩
theorem isStrD_inv {d : D} (h : isStrD d = true) : ∃ i, toPy d = .str i := by
  cases d <;> first | (cases h; done) | skip
  exact ⟨_, by unfold toPy; rfl⟩
theorem ints_py : ∀ {l : List D}, l.all isIntD = true → ∃ is : List Int, toPys l = is.map .int
  | [], _ => ⟨[], by unfold toPys; rfl⟩
  | d :: l, h => by
    simp only [List.all_cons, Bool.and_eq_true] at h
    obtain ⟨i, e⟩ := isIntD_inv h.1
    obtain ⟨is, e2⟩ := ints_py h.2
    exact ⟨i :: is, by unfold toPys; rw [e, e2]; rfl⟩
theorem isRowD_inv {d : D} (h : isRowD d = true) : ∃ is : List Int, toPy d = .tuple (is.map .int) := by
  cases d <;> first | (cases h; done) | skip
  rename_i l
  cases l with
  | nil => cases h
  | cons x r =>
    obtain ⟨is, e⟩ := ints_py (l := x :: r) h
    exact ⟨is, by unfold toPy; rw [e]⟩
theorem alikeD_ok {l : List D} (h : alikeD l = true) : PySem.W.AllAlike (l.map toPy) := by
  intro d hd d' hd'
  obtain ⟨a, ha, rfl⟩ := List.mem_map.mp hd
  obtain ⟨b, hb, rfl⟩ := List.mem_map.mp hd'
  unfold alikeD at h
  simp only [Bool.or_eq_true] at h
  rcases h with ((h | h) | h) | h
  · obtain ⟨i, e⟩ := isIntD_inv (List.all_eq_true.mp h a ha)
    obtain ⟨j, e'⟩ := isIntD_inv (List.all_eq_true.mp h b hb)
    rw [e, e']; unfold PySem.W.alike; rfl
  · obtain ⟨i, e⟩ := isStrD_inv (List.all_eq_true.mp h a ha)
    obtain ⟨j, e'⟩ := isStrD_inv (List.all_eq_true.mp h b hb)
    rw [e, e']; unfold PySem.W.alike; rfl
  · obtain ⟨i, e⟩ := isRowD_inv (List.all_eq_true.mp h a ha)
    obtain ⟨j, e'⟩ := isRowD_inv (List.all_eq_true.mp h b hb)
    rw [e, e']; unfold PySem.W.alike; exact PySem.W.alike_ints i j
  · exact List.all_eq_true.mp (List.all_eq_true.mp h a ha) b hb
theorem sortableD_ok {l : List D} (h : sortableD l = true) : PySem.W.Sortable (l.map toPy) := by
  unfold sortableD at h
  simp only [Bool.or_eq_true] at h
  rcases h with h | h
  · refine .inl fun d hd => ?_
    obtain ⟨a, ha, rfl⟩ := List.mem_map.mp hd
    have q := List.all_eq_true.mp h a ha
    cases a <;> first | (cases q; done) | skip
    rename_i l
    cases l with
    | nil => cases q
    | cons x r => exact ⟨toPy x, toPys r, by rw [show toPy (.tup (x :: r)) = .tuple (toPys (x :: r)) from by rw [toPy], show toPys (x :: r) = toPy x :: toPys r from by rw [toPys]]⟩
  · refine .inr fun d hd => ?_
    obtain ⟨a, ha, rfl⟩ := List.mem_map.mp hd
    have q := List.all_eq_true.mp h a ha
    cases a <;> first | (cases q; done) | skip
    all_goals (unfold toPy; exact ⟨(by intro z; cases z), (by intro xs z; cases z)⟩)
theorem leD_tot : ∀ a b, (leD a b || leD b a) = true := fun a b => by
  unfold leD PySem.W.dataLt
  cases h1 : PyProof.Rows.lexLt PyProof.Rows.itemOrd (PySem.W.keyToks (toPy b)) (PySem.W.keyToks (toPy a)) with
  | false => rfl
  | true =>
    cases h2 : PyProof.Rows.lexLt PyProof.Rows.itemOrd (PySem.W.keyToks (toPy a)) (PySem.W.keyToks (toPy b)) with
    | false => rfl
    | true =>
      have := PyProof.Rows.lex_trans (O := PyProof.Rows.itemOrd) _ _ _ h1 h2
      rw [PyProof.Rows.lex_irrefl] at this
      cases this
theorem leD_tr : ∀ a b c, leD a b = true → leD b c = true → leD a c = true := fun a b c h1 h2 => by
  unfold leD PySem.W.dataLt at *
  simp only [Bool.not_eq_true'] at *
  cases h : PyProof.Rows.lexLt PyProof.Rows.itemOrd (PySem.W.keyToks (toPy c)) (PySem.W.keyToks (toPy a)) with
  | false => rfl
  | true =>
    rcases PyProof.Rows.lex_negTrans (O := PyProof.Rows.itemOrd) _ (PySem.W.keyToks (toPy b)) _ h with q | q
    · rw [h2] at q; cases q
    · rw [h1] at q; cases q
/-- sorted(xs), xs a list of data that can be compared -/
def rSortX (K : PySem.W.Frag) : List V → Hp → VK → Prop := fun vs H Q => ∃ (a : Addr) (ps : List (V × PyData)), vs = [V.ref a] ∧ SqL K H a (ps.map (·.1)) ∧ (∀ p ∈ ps, Dp K H p.1 p.2) ∧ PySem.W.AllAlike (ps.map (·.2)) ∧ PySem.W.Sortable (ps.map (·.2)) ∧
  (∀ p ∈ ps, p.2.depth ≤ 50) ∧ ∀ q, H q = none → Q (.ref q) (upd H q (.lst ((ps.mergeSort (PySem.W.dataLe false (·.2))).map (·.1))))
section
variable {X : Cx}
theorem each_of_vals {ps : List (V × PyData)} : ∀ {its : List Value}, Vals (ps.map (·.1)) its → PySem.W.EachIs (fun v (p : V × PyData) => RelV p.1 v) its ps := by
  induction ps with
  | nil => intro its h; cases h; exact .nil
  | cons p ps ih => intro its h; cases h with | cons a b => exact .cons a (ih b)
theorem vals_of_each {ps : List (V × PyData)} : ∀ {its : List Value}, PySem.W.EachIs (fun v (p : V × PyData) => RelV p.1 v) its ps → Vals (ps.map (·.1)) its := by
  induction ps with
  | nil => intro its h; cases h; exact .nil
  | cons p ps ih => intro its h; cases h with | cons a b => exact .cons a (ih b)
theorem cr_sortX (hu : X.A.units + 64 < cLine) : CallR X (.builtin "sorted") (rSortX X.K) := by
  intro pins s σ H vs us Q I r h
  obtain ⟨a, ps, rfl, hs, hd, hal, hk, hdp, q⟩ := h
  obtain ⟨its, rv, hl, hz⟩ := I.list hs
  rw [Vals.ref1 r]
  have e := each_of_vals rv
  have hlen : ps.length ≤ sizeLine := by simpa using hz
  refine PySem.W.sorted_data (enc := fun p : V × PyData => p.2) hl.isList e ((PySem.W.each_mem e).mono fun v p ⟨hv, hm⟩ => Dp.reads I p.2 p.1 v (hd p hm) hv) hal hk hlen (fun p hp => by have := hdp p hp; omega) fun out ho he => ?_
  obtain ⟨ep, he'⟩ := PyProof.Rows.sortedAll_at s.heap its out.toArray
  have hv := vals_of_each he
  exact ⟨.ref _, upd H (s.heap.objs.size + 1) (.lst _), I.laid (t' := s.toks) (fun _ _ => PyProof.Rows.sortedAll_old) (Nat.le_succ _) ⟨by simpa using hlen, out, ep, hv, he'⟩, rfl, q _ (I.hok.fresh (Nat.le_succ _))⟩
theorem reps_zip {T : Tx} {ρ : List Addr} {G : Hp} : ∀ {vs : List V} {l : List D}, Reps T ρ G vs l → ∃ qs : List (V × D), qs.map (·.1) = vs ∧ qs.map (·.2) = l ∧ ∀ q ∈ qs, Rep T ρ G q.1 q.2
  | vs, [], h => by unfold Reps at h; subst h; exact ⟨[], rfl, rfl, fun q hq => absurd hq (by simp)⟩
  | vs, d :: l, h => by
    obtain ⟨v, t, rfl, q, rs⟩ := h.inv
    obtain ⟨qs, e1, e2, hq⟩ := reps_zip rs
    exact ⟨(v, d) :: qs, by simp [e1], by simp [e2], fun x hx => (List.mem_cons.mp hx).elim (fun e => by subst e; exact q) (hq x)⟩
theorem zip_reps {T : Tx} {ρ : List Addr} {G : Hp} : ∀ {qs : List (V × D)}, (∀ q ∈ qs, Rep T ρ G q.1 q.2) → Reps T ρ G (qs.map (·.1)) (qs.map (·.2))
  | [], _ => .nil
  | q :: qs, h => .cons (h q List.mem_cons_self) (zip_reps fun x hx => h x (List.mem_cons_of_mem _ hx))
theorem ca_sorted : CallD (tx X) (rSortX X.K) fSorted := by
  intro B W σ env ρ G H μ vs ds Q R h k
  unfold fSorted at k
  split at k
  · obtain ⟨v, rfl, hv⟩ := hreps1 h
    split at k
    · rename_i l e
      split at k
      · rename_i hc
        simp only [Bool.and_eq_true] at hc
        obtain ⟨⟨hp, ha⟩, hs⟩ := hc
        obtain ⟨a, us, rfl, q, z, r⟩ := seqL_inv R hv e
        obtain ⟨qs, e1, e2, hq⟩ := reps_zip r
        subst e1
        subst e2
        have pl : ∀ p ∈ qs, plainD 50 p.2 = true := fun p hm => List.all_eq_true.mp hp _ (List.mem_map.mpr ⟨p, hm, rfl⟩)
        refine ⟨a, qs.map fun p => (p.1, toPy p.2), rfl, ?_, ?_, ?_, ?_, ?_, fun p hn => ?_⟩
        · rw [List.map_map]; exact .of q
        · intro p hm
          obtain ⟨y, hy, rfl⟩ := List.mem_map.mp hm
          exact dp_of R.gh rfl (pl y hy) (hq y hy)
        · rw [List.map_map]
          have := alikeD_ok ha
          rw [List.map_map] at this; exact this
        · rw [List.map_map]
          have := sortableD_ok hs
          rw [List.map_map] at this; exact this
        · intro p hm
          obtain ⟨y, hy, rfl⟩ := List.mem_map.mp hm
          exact (lay_of (pl y hy)).2
        · have m1 : (qs.mergeSort fun a b => leD a.2 b.2).map (fun p => (p.1, toPy p.2)) = (qs.map fun p => (p.1, toPy p.2)).mergeSort (PySem.W.dataLe false (·.2)) :=
            List.map_mergeSort fun a _ b _ => rfl
          have m2 : (qs.mergeSort fun a b => leD a.2 b.2).map (·.2) = (qs.map (·.2)).mergeSort leD := List.map_mergeSort fun a _ b _ => rfl
          rw [← m1, List.map_map]
          have rr := zip_reps (qs := qs.mergeSort fun a b => leD a.2 b.2) fun y hy => hq y ((List.mergeSort_perm _ _).mem_iff.mp hy)
          rw [m2, ← sortBy_eq leD_tr leD_tot] at rr
          have zz : szl (sortBy leD (qs.map (·.2))).length := by
            rw [sortBy_eq leD_tr leD_tot, List.length_mergeSort]; exact z
          exact k.newL R rr zz p hn
      · exact k.elim
    · exact k.elim
  · exact k.elim
end
end Dv

/-! DwZD: a lambda as a value in its maker's frame. -/
namespace Dv
open PySem PySem.Spec PyProof.Rows L2
section
variable {X : Cx} {pins : List (Addr × Obj)} {σ : L2.St} {H : Hp} {s : Shared} {c P : Addr} {pos : Pos} {E Q : Value → Shared → Prop} {ps : Array Value} {L : LamI} {dV : Value}
abbrev cloX (X : Cx) (L : LamI) : List (Str × Addr) := cloFrom X.env.cells L.scope.names []
theorem lamO_ok {P : Program} {w : World} {H : Hp} {h : Heap} {f c' : Addr} {dV doc pm ctv : Value} {cl : List (Str × Addr)} {L : LamI} (e : h.get? f = some (PySem.W.kdv_obj "<lambda>" L.q L.params (.expr L.body) L.scope cl dV doc pm c' ctv)) : ObjOk P w H h f (LamO f c' dV cl L) :=
  ⟨⟨doc, pm, ctv, e⟩, ⟨_, e⟩, fun h1 h2 ⟨d, p, t, z⟩ st => ⟨d, p, t, st _ z⟩⟩
theorem lam_val (I : Inv X pins σ H s) (TB : LamX.TabB X.base X.mg c P) (own : X.env.code = .ref c) (t : TabAt H P L.q ps) (eq : lamQ X = L.q) (clo : ∀ y ∈ L.scope.names, y.2 = .free → ∃ a, X.env.cells.lookup y.1 = some a)
    (hit : ∀ (f c' : Addr) (s' : Shared), codeAmong pos ps.toList = some (.ref c') → H f = none → Inv X pins σ (upd H f (LamO f c' dV (cloX X L) L)) s' → Q (.ref f) s')
    (new : ∀ (f c' : Addr) (s' : Shared), H c' = none → H f = none → f ≠ c' → f ≠ P → Inv X pins σ (upd (upd (upd H P (.tbl (ps ++ triple pos c'))) c' (LamX.CodeO c' L.q)) f (LamO f c' dV (cloX X L) L)) s' → Q (.ref f) s') :
    wpAny (model X.prog X.w) X.A (makeTail "<lambda>" (X.env.qual ++ "<lambda>") L.params (.expr L.body) L.scope X.env dV .none none pos pos.line) Q E s := by
  have eq' : X.env.qual ++ "<lambda>" = L.q := eq
  rw [eq']
  have onHeap := I.hok P _ t.at_
  have gl := I.mod.glob.keeps I.bk
  have cd := TB.code.keeps I.bk
  have bm := TB.bm.keeps I.bk
  match hc : codeAmong pos ps.toList with
  | some u =>
    obtain ⟨c', rfl, known⟩ := t.code pos u hc
    exact PySem.W.kdv_makeTailHit (closure_ok clo) I.ok.glob gl own cd onHeap t.tr hc bm fun ctv doc h' tk old len =>
      hit h'.objs.size c' _ hc (I.hok.fresh len) (I.laid (fun b o e => Heap.get?_push_of_some _ (old b o e)) len (lamO_ok (Heap.get?_push_size _ rfl)))
  | none =>
    refine PySem.W.kdv_makeTail (closure_ok clo) I.ok.glob gl own cd onHeap t.tr hc TB.gP bm fun c' ctv doc h' tk old ge lt rec tab => ?_
    obtain ⟨_, oc, vs, tk2, e2, at2, dt, nm⟩ := rec
    cases e2
    have len : s.heap.objs.size ≤ h'.objs.size := Nat.le_of_lt (Nat.lt_of_le_of_lt ge lt)
    have fresh : H h'.objs.size = none := I.hok.fresh len
    have J := LamX.inv_table (more := triple pos c') (t' := tk) I t.at_ old tab ge ⟨oc, vs, tk2, at2, dt, nm⟩
    exact new h'.objs.size c' _ (I.hok.fresh ge) fresh (Nat.ne_of_gt lt) (ne_of_none t.at_ fresh).symm (J.laid (t' := tk) (fun b o e => Heap.get?_push_of_some _ e) (Nat.le_refl _) (lamO_ok (Heap.get?_push_size _ rfl)))
end
/-- every name that the lambda catches is a cell of its maker -/
structure LamF (sc scope : Scope) : Prop where
  free : ∀ y ∈ scope.names, y.2 = .free → sc.names.lookup y.1 = some .cell ∨ sc.names.lookup y.1 = some .free
def lamFB (sc scope : Scope) : Bool := scope.names.all fun y => !decide (y.2 = .free) || (decide (sc.names.lookup y.1 = some .cell) || decide (sc.names.lookup y.1 = some .free))
theorem lamF_by {sc scope : Scope} (h : lamFB sc scope = true) : LamF sc scope := ⟨fun y hy e => by
  have q := List.all_eq_true.mp h y hy
  simp only [Bool.or_eq_true, Bool.not_eq_true', decide_eq_true_eq, decide_eq_false_iff_not] at q
  rcases q with z | z
  · exact absurd e z
  · exact z⟩
theorem LamF.has {X : Cx} {scope : Scope} (L : LamF X.env.scope scope) (ok : X.Ok) {y : Str × NameKind} (hy : y ∈ scope.names) (e : y.2 = .free) : ∃ c, X.env.cells.lookup y.1 = some c :=
  ok.has _ (L.free y hy e)
/-! ### at the level of deep values -/
/-- k: where the maker's table stands; cells: the maker's -/
def dLamV (k : Nat) (pl : Str × Option Str) (cl : List (Str × Addr)) (L : LamI) : DEx := fun _ μ => match μ[k]? with
  | some (.tab p' q') => if p' = pl ∧ q' = L.q then ret (.lam cl L) μ else none
  | _ => none
section
variable {X : Cx} {B : Bs} {W : WX} {k : Nat} {pl : Str × Option Str} {L : LamI} {pos : Pos}
/-- the end of both: the defaults stand, the function is made -/
theorem lam_rd {pins : List (Addr × Obj)} {σ : L2.St} {H : Hp} {s : Shared} {ρ : List Addr} {G : Hp} {env : DEnv} {μ : Mu} {dV : Value} {Q : VK} (I : Inv X pins σ H s) (R : RD (tx X) B ρ G H σ env μ)
    (hm : μ[k]? = some (.tab pl L.q)) (TB : LamX.TabB X.base X.mg (He.cT X.K pl).1 (He.cT X.K pl).2) (own : X.env.code = .ref (He.cT X.K pl).1) (eq : lamQ X = L.q) (clo : ∀ y ∈ L.scope.names, y.2 = .free → ∃ a, X.env.cells.lookup y.1 = some a)
    (dfl : (L.dfl = false ∧ dV = .none) ∨ (L.dfl = true ∧ ∃ t, dV = .ref t ∧ G t = some (.tup [.int 0])))
    (fin : ∀ (G' H' : Hp) (v : V), Same G G' → RD (tx X) B ρ G' H' σ env μ → Rep (tx X) ρ G' v (.lam (cloX X L) L) → Q v H') :
    wpAny (model X.prog X.w) X.A (makeTail "<lambda>" (X.env.qual ++ "<lambda>") L.params (.expr L.body) L.scope X.env dV .none none pos pos.line) (fun u s2 => ∃ v H2, Inv X pins σ H2 s2 ∧ L2.RelV v u ∧ Q v H2) X.xe s := by
  have hP : ρ[k]? = some (He.cT X.K pl).2 := by
    obtain ⟨a, ea, r⟩ := R.st.at_ k _ hm
    rw [ea, r.1]
  obtain ⟨ps, tab, old⟩ := R.tabAt hP hm
  refine lam_val I TB own tab eq clo (fun f c' s' hc hf J => ?_) fun f c' s' hc hf n1 n2 J => ?_
  · obtain ⟨a, ea, ga⟩ := old pos _ hc
    cases ea
    have s1 := same_upd (o := LamO f c' dV (cloX X L) L) (R.fresh_ hf).1
    refine ⟨.ref f, _, J, rfl, fin _ _ _ s1 (R.alloc hf) ?_⟩
    unfold Rep
    exact ⟨f, rfl, ⟨c', dV, upd_same, s1 _ _ ga, dfl.elim .inl fun ⟨a, t, b, d⟩ => .inr ⟨a, t, b, s1 _ _ d⟩⟩⟩
  · have R1 := R.lam (pos := pos) hP hm tab old hc
    have gc := (R.fresh_ hc).1
    have s0 := same_upd (o := LamX.CodeO c' L.q) gc
    have hf1 : upd (upd H (He.cT X.K pl).2 (.tbl (ps ++ triple pos c'))) c' (LamX.CodeO c' L.q) f = none := by rw [upd_ne n1, upd_ne n2]; exact hf
    have s1 := same_upd (o := LamO f c' dV (cloX X L) L) (R1.fresh_ hf1).1
    refine ⟨.ref f, _, J, rfl, fin _ _ _ (s0.trans s1) (R1.alloc hf1) ?_⟩
    unfold Rep
    exact ⟨f, rfl, ⟨c', dV, upd_same, s1 _ _ upd_same, dfl.elim .inl fun ⟨a, t, b, d⟩ => .inr ⟨a, t, b, s1 _ _ (s0 _ _ d)⟩⟩⟩
theorem de_lamV {cl : List (Str × Addr)} (TB : LamX.TabB X.base X.mg (He.cT X.K pl).1 (He.cT X.K pl).2) (own : X.env.code = .ref (He.cT X.K pl).1) (LS : LamF X.env.scope L.scope) (nod : defaultsOf L.params X.env = ([], [])) (hd : L.dfl = false) (eq : lamQ X = L.q) (ecl : cl = cloX X L) :
    DE X B W (.Lambda L.params L.body L.scope pos) (dLamV k pl cl L) := by
  subst ecl
  refine ⟨⟨fun pins s σ H Q I ⟨ρ, G, env, μ, R, kk⟩ => ?_⟩⟩
  unfold dLamV at kk
  split at kk
  · rename_i p' q' hm
    split at kk
    · rename_i e
      obtain ⟨rfl, rfl⟩ := e
      refine PySem.W.kla_eval nod ?_
      rw [makeFunction_eq]
      simp only [List.zip_nil_right, List.filterMap_nil, List.isEmpty_nil, if_true, pure_bind]
      exact lam_rd I R hm TB own eq (fun _ hy e => LS.has I.ok hy e) (.inl ⟨hd, rfl⟩) fun G' H' v s1 R1 r => kk ρ G' H' s1 (.refl _) R1 v (.ofR r)
    · exact kk.elim
  · exact kk.elim
theorem de_lamV1 {cl : List (Str × Addr)} {j1 : Nat} {p1 : Pos} (TB : LamX.TabB X.base X.mg (He.cT X.K pl).1 (He.cT X.K pl).2) (own : X.env.code = .ref (He.cT X.K pl).1) (LS : LamF X.env.scope L.scope) (hds : L.params.defaults = [.Constant (.int 0) j1 p1]) (hk0 : L.params.kw_defaults = []) (hd : L.dfl = true) (eq : lamQ X = L.q) (ecl : cl = cloX X L) :
    DE X B W (.Lambda L.params L.body L.scope pos) (dLamV k pl cl L) := by
  subst ecl
  refine ⟨⟨fun pins s σ H Q I ⟨ρ, G, env, μ, R, kk⟩ => ?_⟩⟩
  unfold dLamV at kk
  split at kk
  · rename_i p' q' hm
    split at kk
    · rename_i e
      obtain ⟨rfl, rfl⟩ := e
      refine PySem.W.kdv_lam (by rw [hds]; rfl) hk0 ?_
      rw [hds]
      refine PySem.W.kdv_all1 (wpAny_mono ((pe_int (X := X) (i := 0) (j := j1) (pos := p1)).run pins s σ H (fun v H' => v = .int 0 ∧ H' = H) I ⟨rfl, rfl⟩) ?_ fun _ _ z => z)
      rintro u s1 ⟨v, H1, I1, r1, e1, e2⟩
      rw [e2] at I1
      rw [e1] at r1
      refine PySem.W.kdv_all0 ?_
      rw [makeFunction_eq]
      simp only [List.zip_nil_right, List.filterMap_nil, List.isEmpty_nil, if_true, pure_bind, List.isEmpty_cons, Bool.false_eq_true, if_false]
      refine wpAny_bind (wpAny_newTextTuple ?_)
      have hn : H s1.heap.objs.size = none := I1.hok.fresh (Nat.le_refl _)
      have J : Inv X pins σ (upd H s1.heap.objs.size (.tup [.int 0])) { s1 with heap := s1.heap.push { cls := .type "tuple", data := .seq [u].toArray } } :=
        I1.laid (t' := s1.toks) (fun b o e => Heap.get?_push_of_some _ e) (Nat.le_refl _) ⟨by decide, [u], .cons r1 .nil, _, Heap.get?_push_size _ rfl, rfl, _, rfl⟩
      exact lam_rd J (R.alloc hn) hm TB own eq (fun _ hy e => LS.has I.ok hy e) (.inr ⟨hd, _, rfl, upd_same⟩) fun G' H' v s2 R1 r => kk ρ G' H' ((same_upd (R.fresh_ hn).1).trans s2) (.refl _) R1 v (.ofR r)
    · exact kk.elim
  · exact kk.elim
end
end Dv

/-! DwZE: the cells of a waiting frame stand still: tracked for a call, untracked while a closure of theirs runs. -/
namespace Dv
open PySem PySem.Spec PyProof.Rows L2
def isCel (cl : List (Str × Addr)) (b : Addr) : Prop := ∃ x, cl.lookup x = some b
section
open Classical
noncomputable def frzH (cl : List (Str × Addr)) (h : Heap) (H : Hp) : Hp := fun b => if isCel cl b then (h.get? b).map celO else H b
noncomputable def unH (cl : List (Str × Addr)) (H : Hp) : Hp := fun b => if isCel cl b then none else H b
theorem frz_cel {cl : List (Str × Addr)} {h : Heap} {H : Hp} {b : Addr} {o : Obj} (c : isCel cl b) (e : h.get? b = some o) : frzH cl h H b = some (celO o) := by
  unfold frzH; rw [if_pos c, e]; rfl
theorem frz_out {cl : List (Str × Addr)} {h : Heap} {H : Hp} {b : Addr} (c : ¬ isCel cl b) : frzH cl h H b = H b := by
  unfold frzH; rw [if_neg c]
theorem un_cel {cl : List (Str × Addr)} {H : Hp} {b : Addr} (c : isCel cl b) : unH cl H b = none := by
  unfold unH; rw [if_pos c]
theorem un_out {cl : List (Str × Addr)} {H : Hp} {b : Addr} (c : ¬ isCel cl b) : unH cl H b = H b := by
  unfold unH; rw [if_neg c]
end
/-- the cells stand, untracked -/
structure CelFree (cl : List (Str × Addr)) (h : Heap) (H : Hp) : Prop where
  none_ : ∀ a, isCel cl a → H a = none
  cell : ∀ a, isCel cl a → ∃ v, h.IsCell a v
/-- .. tracked -/
structure CelSet (cl : List (Str × Addr)) (H : Hp) : Prop where
  at_ : ∀ a, isCel cl a → ∃ o v, H a = some (celO o) ∧ o.data = .cell v
section
variable {P : Program} {w : World} {K : PySem.W.Frag} {mg : Str → Option Value} {base : Heap} {A : Around} {outer : List Env} {s s2 : Shared} {H H' : Hp} {cl : List (Str × Addr)} {h h2 : Heap} {fs : List Addr} {u : Value} {Q Q' : VK}
theorem CelFree.out (C : CelFree cl h H) {a : Addr} {o : HO} (e : H a = some o) : ¬ isCel cl a := fun c => by
  rw [C.none_ a c] at e; cases e
theorem CelSet.out (C : CelSet cl H) {a : Addr} {o : HO} (e : H a = some o) (n : ∀ x, o ≠ celO x) : ¬ isCel cl a := fun c => by
  obtain ⟨x, v, e2, _⟩ := C.at_ a c
  rw [e] at e2; cases e2; exact n x rfl
theorem CelSet.outN (C : CelSet cl H) {a : Addr} (e : H a = none) : ¬ isCel cl a := fun c => by
  obtain ⟨x, v, e2, _⟩ := C.at_ a c
  rw [e] at e2; cases e2
theorem hok_frz (C : CelFree cl h H) (x : HOk P w H h) : HOk P w (frzH cl h H) h := fun b o e => by
  by_cases c : isCel cl b
  · obtain ⟨v, ob, e1, e2⟩ := C.cell b c
    rw [frz_cel c e1] at e
    cases e
    exact ⟨e1, trivial, ⟨ob, e1⟩, fun _ _ _ _ => trivial⟩
  · rw [frz_out c] at e
    exact (x b o e).stay (fun b u _ q => q) (fun b q => by rw [frz_out (C.out q)]; exact q) fun b xs q => by rw [frz_out (C.out q)]; exact q
theorem hok_un (C : CelSet cl H) (x : HOk P w H h) : HOk P w (unH cl H) h := fun b o e => by
  by_cases c : isCel cl b
  · rw [un_cel c] at e; cases e
  · rw [un_out c] at e
    exact (x b o e).stay (fun b u _ q => q) (fun b q => by rw [un_out (C.out q fun _ => by intro z; cases z)]; exact q) fun b xs q => by rw [un_out (C.out q fun _ => by intro z; cases z)]; exact q
theorem env0_un (e0 : Env0 P w K mg base A outer s H) (C : CelSet cl H) : Env0 P w K mg base A outer s (unH cl H) :=
  ⟨e0.frames, e0.mod, fun b o e => ⟨(e0.bs b o e).1, by rw [un_out (C.outN (e0.bs b o e).2)]; exact (e0.bs b o e).2⟩, e0.bsz, e0.funs, fun b m => by rw [un_out (C.outN (e0.frf b m))]; exact e0.frf b m, hok_un C e0.hok, e0.bare⟩
/-- behind a call that ran with the cells untracked -/
theorem cel_obj (C : CelSet cl H) (ok : HOk P w H h) {a : Addr} (c : isCel cl a) : ∃ o v, H a = some (celO o) ∧ o.data = .cell v ∧ h.get? a = some o := by
  obtain ⟨o, v, e1, e2⟩ := C.at_ a c
  exact ⟨o, v, e1, e2, (ok a _ e1).1⟩
theorem un_back (C : CelSet cl H) (ok0 : HOk P w H h) (x : Un fs [] (unH cl H) H' h h2) : Un fs [] H (frzH cl h H') h h2 where
  keep := fun b o e n hb hx => x.keep b o e (by rw [un_out (C.outN n)]; exact n) hb hx
  slot := fun b o e n hb hx => x.slot b o e (by rw [un_out (C.outN n)]; exact n) hb hx
  free := fun b o e n hx => by rw [frz_out (C.outN n)]; exact x.free b o e (by rw [un_out (C.outN n)]; exact n) hx
  there := fun b o e hx => x.there b o e hx
  tups := fun b xs e => by
    have c := C.out e fun _ => by intro z; cases z
    rw [frz_out c]; exact x.tups b xs (by rw [un_out c]; exact e)
  frzs := fun b o u e => by
    by_cases c : isCel cl b
    · obtain ⟨o', v, e1, _, e3⟩ := cel_obj C ok0 c
      rw [e1] at e
      cases e
      exact frz_cel c e3
    · rw [frz_out c]; exact x.frzs b o u (by rw [un_out c]; exact e)
  tbls := fun b ps e => by
    have c := C.out e fun _ => by intro z; cases z
    rw [frz_out c]; exact x.tbls b ps (by rw [un_out c]; exact e)
theorem hok_back (C : CelSet cl H) (ok0 : HOk P w H h) (nf : ∀ a, isCel cl a → a ∉ fs) (x : Un fs [] (unH cl H) H' h h2) (ok : HOk P w H' h2) : HOk P w (frzH cl h H') h2 := fun b o e => by
  have free : ∀ {a : Addr}, isCel cl a → H' a = none ∧ ∃ o, h.get? a = some o ∧ h2.get? a = some o := fun {a} c => by
    obtain ⟨o', v, _, _, e3⟩ := cel_obj C ok0 c
    exact ⟨x.free a o' e3 (un_cel c) (by simp), o', e3, x.keep a o' e3 (un_cel c) (nf a c) (by simp)⟩
  have keep : ∀ {a : Addr} {o : HO}, H' a = some o → frzH cl h H' a = some o := fun {a o} q => by
    rw [frz_out fun c => by rw [(free c).1] at q; cases q]; exact q
  by_cases c : isCel cl b
  · obtain ⟨_, o', e1, e2⟩ := free c
    rw [frz_cel c e1] at e
    cases e
    exact ⟨e2, trivial, ⟨o', e2⟩, fun _ _ _ _ => trivial⟩
  · rw [frz_out c] at e
    exact (ok b o e).stay (fun b u _ q => q) (fun b q => keep q) fun b xs q => keep q
theorem ce_back (C : CelSet cl H) (e0 : Env0 P w K mg base A outer s H) (x : CE outer P w (unH cl H) s Q' u s2) (q : ∀ v H', (∀ a, isCel cl a → H' a = none) → Q' v H' → Q v (frzH cl s.heap H')) : CE outer P w H s Q u s2 := by
  obtain ⟨v, H', os, bare, un, ok, r, h⟩ := x
  have nf : ∀ a, isCel cl a → a ∉ frs outer := fun a c m => C.outN (e0.frf a m) c
  refine ⟨v, frzH cl s.heap H', os, bare, un_back C e0.hok un, hok_back C e0.hok nf un ok, r, q v H' (fun a c => ?_) h⟩
  obtain ⟨o', v, _, _, e3⟩ := cel_obj C e0.hok c
  exact un.free a o' e3 (un_cel c) (by simp)
end
end Dv

/-! DwZF: the same of deep values and of the store. -/
namespace Dv
open PySem PySem.Spec PyProof.Rows L2
mutual
def noClo : D → Bool
  | .clo _ _ => false
  | .tup l => noClos l
  | .lst l => noClos l
  | .scr l => noClos l
  | .ins _ fs => noCloF fs
  | .exn _ fs => noCloF fs
  | .new l => noClos l
  | .bor l => noClos l
  | _ => true
def noClos : List D → Bool
  | [] => true
  | d :: ds => noClo d && noClos ds
def noCloF : List (Str × D) → Bool
  | [] => true
  | (_, d) :: ds => noClo d && noCloF ds
end
section
variable {T : Tx} {ρ : List Addr} {G : Hp} {cl : List (Str × Addr)}
theorem un_at (C : CelSet cl G) {a : Addr} {o : HO} (e : G a = some o) (n : ∀ x, o ≠ celO x) : unH cl G a = some o := by
  rw [un_out (C.out e n)]; exact e
mutual
theorem Rep.un (C : CelSet cl G) : ∀ {d : D} {v : V}, noClo d = true → Rep T ρ G v d → Rep T ρ (unH cl G) v d
  | .non, _, _, h => h
  | .bl _, _, _, h => h
  | .int _, _, _, h => h
  | .str _, _, _, h => h
  | .ty _, _, _, h => h
  | .glo _, v, _, h => by unfold Rep at h ⊢; exact h
  | .fn _, v, _, h => by unfold Rep at h ⊢; exact h
  | .rng _ _, v, _, h => by unfold Rep at h ⊢; obtain ⟨a, e, q⟩ := h; exact ⟨a, e, un_at C q fun _ => by intro z; cases z⟩
  | .obj _, v, _, h => by unfold Rep at h ⊢; exact h
  | .new _, _, _, h => by unfold Rep at h; exact h.elim
  | .bor _, _, _, h => by unfold Rep at h; exact h.elim
  | .lam cl' L, v, _, h => by
    unfold Rep at h ⊢
    obtain ⟨f, e, ⟨c', dV, e1, e2, e3⟩⟩ := h
    exact ⟨f, e, ⟨c', dV, un_at C e1 (fun _ => by intro z; cases z), un_at C e2 (fun _ => by intro z; cases z), e3.elim .inl fun ⟨a, t, b, d⟩ => .inr ⟨a, t, b, un_at C d fun _ => by intro z; cases z⟩⟩⟩
  | .clo _ _, _, n, _ => by unfold noClo at n; cases n
  | .tup l, v, n, h => by
    unfold noClo at n; unfold Rep at h ⊢
    obtain ⟨a, vs, e, q, z, r⟩ := h
    exact ⟨a, vs, e, q.elim (fun q => .inl (un_at C q fun _ => by intro z; cases z)) .inr, z, Reps.un C n r⟩
  | .lst l, v, n, h => by
    unfold noClo at n; unfold Rep at h ⊢
    obtain ⟨a, vs, e, q, z, r⟩ := h
    exact ⟨a, vs, e, un_at C q (fun _ => by intro z; cases z), z, Reps.un C n r⟩
  | .scr l, v, n, h => by
    unfold noClo at n; unfold Rep at h ⊢
    obtain ⟨a, vs, e, q, z, r⟩ := h
    refine ⟨a, vs, e, ?_, z, Reps.un C n r⟩
    rcases q with (q | ⟨o, q⟩) | q
    · exact .inl (.inl (un_at C q fun _ => by intro z; cases z))
    · exact .inl (.inr ⟨o, un_at C q fun _ => by intro z; cases z⟩)
    · exact .inr q
  | .ins c fs, v, n, h => by
    unfold noClo at n; unfold Rep at h ⊢
    obtain ⟨a, C', dx, vf, e, m, q, r⟩ := h
    exact ⟨a, C', dx, vf, e, m, un_at C q (fun _ => by intro z; cases z), RepF.un C n r⟩
  | .exn c fs, v, n, h => by
    unfold noClo at n; unfold Rep at h ⊢
    obtain ⟨a, C', d, vf, e, m, q, q2, r⟩ := h
    exact ⟨a, C', d, vf, e, m, un_at C q (fun _ => by intro z; cases z), un_at C q2 (fun _ => by intro z; cases z), RepF.un C n r⟩
theorem Reps.un (C : CelSet cl G) : ∀ {l : List D} {vs : List V}, noClos l = true → Reps T ρ G vs l → Reps T ρ (unH cl G) vs l
  | [], _, _, h => by unfold Reps at h ⊢; exact h
  | d :: ds, vs, n, h => by
    unfold noClos at n
    simp only [Bool.and_eq_true] at n
    unfold Reps at h ⊢
    obtain ⟨v, r, e, q, t⟩ := h
    exact ⟨v, r, e, Rep.un C n.1 q, Reps.un C n.2 t⟩
theorem RepF.un (C : CelSet cl G) : ∀ {l : List (Str × D)} {vs : List (Str × V)}, noCloF l = true → RepF T ρ G vs l → RepF T ρ (unH cl G) vs l
  | [], _, _, h => by unfold RepF at h ⊢; exact h
  | (f, d) :: ds, vs, n, h => by
    unfold noCloF at n
    simp only [Bool.and_eq_true] at n
    unfold RepF at h ⊢
    obtain ⟨v, r, e, q, t⟩ := h
    exact ⟨v, r, e, Rep.un C n.1 q, RepF.un C n.2 t⟩
end
end
def plainM : MObj → Bool
  | .slf _ _ => false
  | .mls l => noClos l
  | _ => true
section
variable {T : Tx} {ρ ρ' : List Addr} {G G' H H' : Hp} {cl : List (Str × Addr)} {μ : Mu} {h : Heap}
/-- the frame's own: nothing of the cells is tracked -/
theorem same_frz (C : CelFree cl h H) (gh : Same G H) : Same G (frzH cl h G) := fun a o e => by rw [frz_out (C.out (gh a o e))]; exact e
theorem same_frzH (C : CelFree cl h H) : Same H (frzH cl h H) := fun a o e => by rw [frz_out (C.out e)]; exact e
theorem gh_frz (C : CelFree cl h H) (gh : Same G H) : Same (frzH cl h G) (frzH cl h H) := fun a o e => by
  by_cases c : isCel cl a
  · obtain ⟨v, ob, e1, e2⟩ := C.cell a c
    rw [frz_cel c e1] at e ⊢; exact e
  · rw [frz_out c] at e ⊢; exact gh a o e
theorem StR.frz (C : CelFree cl h H) (gh : Same G H) (st : StR T ρ G H μ) : StR T ρ (frzH cl h G) (frzH cl h H) μ :=
  ⟨st.len, st.nd, fun a m => by
    obtain ⟨k, hk⟩ := List.mem_iff_getElem?.mp m
    have lt : k < μ.length := by rw [← st.len]; exact (List.getElem?_eq_some_iff.mp hk).1
    obtain ⟨b, eb, r⟩ := st.at_ k μ[k] (by simp [lt])
    rw [hk] at eb; cases eb
    obtain ⟨o, eo⟩ := r.some
    rw [frz_out (C.out eo)]; exact st.off a m, fun k m hm => by
    obtain ⟨a, ea, r⟩ := st.at_ k m hm
    exact ⟨a, ea, r.to (same_frz C gh) fun o e => same_frzH C a o e⟩⟩
theorem celSet_frz (C : CelFree cl h H) : CelSet cl (frzH cl h G) := ⟨fun a c => by
  obtain ⟨v, o, e1, e2⟩ := C.cell a c
  exact ⟨o, v, frz_cel c e1, e2⟩⟩
theorem CelSet.mono (C : CelSet cl G) (s : Same G G') : CelSet cl G' := ⟨fun a c => (let ⟨o, v, e1, e2⟩ := C.at_ a c; ⟨o, v, s _ _ e1, e2⟩)⟩
theorem same_un (C : CelSet cl H) (gh : Same G H) : Same (unH cl G) (unH cl H) := fun a o e => by
  by_cases c : isCel cl a
  · rw [un_cel c] at e; cases e
  · rw [un_out c] at e ⊢; exact gh a o e
theorem StR.un (C : CelSet cl G) (st : StR T ρ G H μ) (np : μ.all plainM = true) : StR T ρ (unH cl G) (unH cl H) μ :=
  ⟨st.len, st.nd, fun a m => by
    by_cases c : isCel cl a
    · exact un_cel c
    · rw [un_out c]; exact st.off a m, fun k m hm => by
    obtain ⟨a, ea, r⟩ := st.at_ k m hm
    have nc : ¬ isCel cl a := C.outN (st.off a (List.mem_of_getElem? ea))
    refine ⟨a, ea, ?_⟩
    have pm := List.all_eq_true.mp np m (List.mem_of_getElem? hm)
    cases m with
    | slf c fs => cases pm
    | mls l =>
      obtain ⟨vs, e1, e2, z⟩ := r
      exact ⟨vs, by rw [un_out nc]; exact e1, e2.un C pm, z⟩
    | src s =>
      obtain ⟨l, e1, e2⟩ := r
      exact ⟨l, by rw [un_out nc]; exact e1, un_at C e2 fun _ => by intro z; cases z⟩
    | tab p q =>
      obtain ⟨e0, ps, e1, e2, e3⟩ := r
      exact ⟨e0, ps, by rw [un_out nc]; exact e1, e2, fun pos u hu => (let ⟨b, x, y⟩ := e3 pos u hu; ⟨b, x, un_at C y fun _ => by intro z; cases z⟩)⟩⟩
/-- back in the frame whose cells they are -/
theorem Ext.un (C : CelFree cl h H) (gh : Same G H) (gh' : Same G' H') (x : Ext ρ (frzH cl h G) (frzH cl h H) ρ' G' H') : Ext ρ G H ρ' (unH cl G') (unH cl H') := by
  have cs : CelSet cl G' := (celSet_frz (G := G) C).mono x.gg
  refine ⟨fun a o e => ?_, x.pre, fun a o e => ?_, fun a o e e0 => ?_, fun a m n => ?_⟩
  · have c := C.out (gh a o e)
    rw [un_out c]; exact x.gg a o (by rw [frz_out c]; exact e)
  · have c := C.out e
    obtain ⟨o', e1, e2⟩ := x.keep a o (by rw [frz_out c]; exact e)
    exact ⟨o', by rw [un_out c]; exact e1, e2⟩
  · by_cases c : isCel cl a
    · rw [un_cel c] at e; cases e
    · rw [un_out c] at e
      have := x.fg a o e (by rw [frz_out c]; exact e0)
      rw [frz_out c] at this; exact this
  · by_cases c : isCel cl a
    · exact C.none_ a c
    · have := x.fr a m n
      rw [frz_out c] at this; exact this
/-- back where the cells are tracked -/
theorem frz_back {G3 : Hp} (n3 : ∀ a, isCel cl a → G3 a = none) : Same G3 (frzH cl h G3) := fun a o e => by
  rw [frz_out fun c => by rw [n3 a c] at e; cases e]; exact e
theorem Ext.back {G3 H3 : Hp} (C : CelSet cl G) (gh : Same G H) (at_ : ∀ a, isCel cl a → ∃ o v, H a = some (celO o) ∧ o.data = .cell v ∧ h.get? a = some o) (n3 : ∀ a, isCel cl a → H3 a = Option.none) (gh3 : Same G3 H3) (st : StR T ρ' G3 H3 μ) (x : Ext ρ (unH cl G) (unH cl H) ρ' G3 H3) : Ext ρ G H ρ' (frzH cl h G3) (frzH cl h H3) := by
  have same : ∀ {a : Addr} {o : HO}, isCel cl a → H a = some o → ∀ {K3 : Hp}, frzH cl h K3 a = some o := fun {a o} c e K3 => by
    obtain ⟨ob, v, e1, _, e3⟩ := at_ a c
    rw [e] at e1; cases e1
    exact frz_cel c e3
  have g3 : ∀ a, isCel cl a → G3 a = Option.none := fun a c => by
    cases e : G3 a with
    | none => rfl
    | some o => have := gh3 a o e; rw [n3 a c] at this; cases this
  refine ⟨fun a o e => ?_, x.pre, fun a o e => ?_, fun a o e e0 => ?_, fun a m n => ?_⟩
  · by_cases c : isCel cl a
    · exact same c (gh a o e)
    · rw [frz_out c]; exact x.gg a o (by rw [un_out c]; exact e)
  · by_cases c : isCel cl a
    · exact ⟨o, same c e, fun _ => rfl⟩
    · obtain ⟨o', e1, e2⟩ := x.keep a o (by rw [un_out c]; exact e)
      exact ⟨o', by rw [frz_out c]; exact e1, e2⟩
  · have c := C.outN e0
    rw [frz_out c] at e
    have := x.fg a o e (by rw [un_out c]; exact e0)
    rw [un_out c] at this; exact this
  · have c : ¬ isCel cl a := fun c => by
      obtain ⟨k, hk⟩ := List.mem_iff_getElem?.mp m
      have lt : k < μ.length := by rw [← st.len]; exact (List.getElem?_eq_some_iff.mp hk).1
      obtain ⟨b, eb, r⟩ := st.at_ k μ[k] (by simp [lt])
      rw [hk] at eb; cases eb
      obtain ⟨o, eo⟩ := r.some
      rw [n3 a c] at eo; cases eo
    have := x.fr a m n
    rw [un_out c] at this; exact this
theorem StR.back {G3 H3 : Hp} (n3 : ∀ a, isCel cl a → H3 a = none) (gh3 : Same G3 H3) (st : StR T ρ' G3 H3 μ) : StR T ρ' (frzH cl h G3) (frzH cl h H3) μ := by
  have g3 : ∀ a, isCel cl a → G3 a = none := fun a c => by
    cases e : G3 a with
    | none => rfl
    | some o => have := gh3 a o e; rw [n3 a c] at this; cases this
  refine ⟨st.len, st.nd, fun a m => ?_, fun k m hm => ?_⟩
  · obtain ⟨k, hk⟩ := List.mem_iff_getElem?.mp m
    have lt : k < μ.length := by rw [← st.len]; exact (List.getElem?_eq_some_iff.mp hk).1
    obtain ⟨b, eb, r⟩ := st.at_ k μ[k] (by simp [lt])
    rw [hk] at eb; cases eb
    obtain ⟨o, eo⟩ := r.some
    rw [frz_out fun c => by rw [n3 a c] at eo; cases eo]; exact st.off a m
  · obtain ⟨a, ea, r⟩ := st.at_ k m hm
    exact ⟨a, ea, r.to (frz_back g3) fun o e => frz_back n3 a o e⟩
theorem gh_back {G3 H3 : Hp} (n3 : ∀ a, isCel cl a → H3 a = none) (gh3 : Same G3 H3) : Same (frzH cl h G3) (frzH cl h H3) := fun a o e => by
  by_cases c : isCel cl a
  · unfold frzH at e ⊢
    rw [if_pos c] at e ⊢; exact e
  · rw [frz_out c] at e ⊢; exact gh3 a o e
end
end Dv

/-! DwZG: a closure called where the cells it caught are tracked. -/
namespace Dv
open PySem PySem.Spec PyProof.Rows L2
section
variable {P : Program} {w : World} {K : PySem.W.Frag} {mg : Str → Option Value} {base : Heap} {A : Around} {outer : List Env} {s s2 : Shared} {H : Hp} {cl : List (Str × Addr)} {u : Value} {E E' : XK}
theorem cx_back (C : CelSet cl H) (e0 : Env0 P w K mg base A outer s H) (x : L2.CX P w outer (unH cl H) s E' u s2) (q : ∀ cls d H', (∀ a, isCel cl a → H' a = none) → E' cls d H' → E cls d (frzH cl s.heap H')) : L2.CX P w outer H s E u s2 := by
  obtain ⟨a, B, H', cls, d, e, fl, ok, ub, na, os, ag, he⟩ := x
  have nf : ∀ a, isCel cl a → a ∉ frs outer := fun a c m => C.outN (e0.frf a m) c
  have free : ∀ {a : Addr}, isCel cl a → H' a = none ∧ ∃ o, s.heap.get? a = some o ∧ B.get? a = some o := fun {a} c => by
    obtain ⟨o', v, _, _, e3⟩ := cel_obj C e0.hok c
    exact ⟨ub.free a o' e3 (un_cel c), o', e3, ub.keep a o' e3 (un_cel c) (nf a c)⟩
  have keep : ∀ {a : Addr} {o : HO}, H' a = some o → frzH cl s.heap H' a = some o := fun {a o} q => by
    rw [frz_out fun c => by rw [(free c).1] at q; cases q]; exact q
  refine ⟨a, B, frzH cl s.heap H', cls, d, e, fl, fun b o e => ?_, ⟨fun b o e n hb => ub.keep b o e (by rw [un_out (C.outN n)]; exact n) hb, ub.slot, fun b o e n => ?_, ub.there, fun b xs e => ?_, fun b o u e => ?_, fun b ps e => ?_⟩, ?_, os, ag, q cls d H' (fun a c => (free c).1) he⟩
  · by_cases c : isCel cl b
    · obtain ⟨_, o', e1, e2⟩ := free c
      rw [frz_cel c e1] at e
      cases e
      exact ⟨e2, trivial, ⟨o', e2⟩, fun _ _ _ _ => trivial⟩
    · rw [frz_out c] at e
      exact (ok b o e).stay (fun b u _ q => q) (fun b q => keep q) fun b xs q => keep q
  · rw [frz_out (C.outN n)]; exact ub.free b o e (by rw [un_out (C.outN n)]; exact n)
  · have c := C.out e fun _ => by intro z; cases z
    rw [frz_out c]; exact ub.tups b xs (by rw [un_out c]; exact e)
  · by_cases c : isCel cl b
    · obtain ⟨o', v, e1, _, e3⟩ := cel_obj C e0.hok c
      rw [e1] at e
      cases e
      exact frz_cel c e3
    · rw [frz_out c]; exact ub.frzs b o u (by rw [un_out c]; exact e)
  · have c := C.out e fun _ => by intro z; cases z
    rw [frz_out c]; exact ub.tbls b ps (by rw [un_out c]; exact e)
  · have c : ¬ isCel cl a := fun c => by
      obtain ⟨_, o', _, e2⟩ := free c
      rw [fl.2.1] at e2; cases e2
    rw [frz_out c]; exact na
end
/-! ### the call itself -/
structure LamB (L : LamI) (ps : List Str) : Prop where
  none_ : L.dfl = false → ps = [] ∧ ∀ (cl : List (Str × Addr)) (doc pm cdv ct : Value), bindArgs (PySem.W.kdv_fn "<lambda>" L.q L.params (.expr L.body) L.scope cl .none doc pm cdv ct) ⟨[], []⟩ = pure []
  one : L.dfl = true → ∃ p, ps = [p] ∧ ∀ (cl : List (Str × Addr)) (t : Addr) (doc pm cdv ct : Value), ∃ k, bindArgs (PySem.W.kdv_fn "<lambda>" L.q L.params (.expr L.body) L.scope cl (.ref t) doc pm cdv ct) ⟨[], []⟩ = seqItems? (.ref t) >>= k ∧ ∀ u : Value, k (some #[u]) = pure [(p, u)]
abbrev nfOf (L : LamI) (cl : List (Str × Addr)) (c' : Addr) : NdefX.NF := ⟨"<lambda>", L.q, L.params, [], L.scope, cl, c'⟩
def preV (L : LamI) : List V := if L.dfl then [.int 0] else []
section
variable {P : Program} {w : World} {K : PySem.W.Frag} {mg : Str → Option Value} {base : Heap} {A : Around} {outer : List Env} {s : Shared} {H : Hp} {cl : List (Str × Addr)} {f : Addr} {L : LamI} {N ps : List Str} {vs : List V} {k : Nat} {t : Addr → TE} {Q : VK} {E : XK}
theorem cellsAt_of (e0 : Env0 P w K mg base A outer s H) (CA : CelAt H cl L.fr vs) : NdefX.CellsAt cl L.fr (vs.map some) s.heap (unH cl H) where
  len := by rw [List.length_map]; exact CA.len
  all := fun y a e => by
    obtain ⟨o, u, e1, e2⟩ := CA.all y a e
    exact ⟨un_cel ⟨y, e⟩, u, o, (e0.hok a _ e1).1, e2⟩
  inj := CA.inj
  has := fun i y e => by
    obtain ⟨a, o, u, v, e1, e2, e3, e4, e5⟩ := CA.has i y e
    refine ⟨a, e1, fun v' ev => ?_⟩
    rw [List.getElem?_map, e4] at ev
    cases ev
    exact ⟨u, e5, o, (e0.hok a _ e2).1, e3⟩
theorem celSet_of (CA : CelAt H cl L.fr vs) : CelSet cl H := ⟨fun a ⟨y, e⟩ => CA.all y a e⟩
theorem run_clo (S : NdefX.NScope N ps L.fr L.scope) (LB : LamB L ps) (e0 : Env0 P w K mg base A outer s H) (hr : Room (k + 1) A) (FA : FunAt H f cl L) (CA : CelAt H cl L.fr vs)
    (read : ∀ c', Room k (A.deeper (NdefX.envF (nfOf L cl c') f s.heap.objs.size)) → PE (NdefX.ncx (L2.CX P w) P w K mg base N (nfOf L cl c') f A outer s (unH cl H) E) L.body (t c')) (hq : ∀ c', t c' (NdefX.startF N (preV L) (vs.map some)) (unH cl H) Q) :
    codeAny (model P w) A (.call (.ref f) ⟨[], []⟩) (CR (L2.CX P w) outer P w (unH cl H) s Q E) s := by
  obtain ⟨c', dV, e1, e2, e3⟩ := FA.ex
  obtain ⟨⟨doc, pm, ctv, ho⟩, _, _⟩ := e0.hok f _ e1
  have CS := celSet_of CA
  have e0' := env0_un e0 CS
  have CC := cellsAt_of e0 CA
  have lim : s.heap.NoLimit := e0.mod.nolimit.keeps fun b o e => (e0.bs b o e).1
  have enter : ∀ (us : List Value), (preV L).length = ps.length → Vals (preV L) us → wpAny (model P w) A.in1 (newFunctionEnv L.scope mainGlobals cl (ps.zip us) (L.q ++ ".<locals>.") (some f) (.ref c') none builtinsNs)
      (fun env s₂ => s₂.heap.NoLimit ∧ codeAny (model P w) A (.expr L.body env) (CR (L2.CX P w) outer P w (unH cl H) s Q E) s₂) (fun e s' => CR (L2.CX P w) outer P w (unH cl H) s Q E (.error e) s') s := fun us hl r => by
    refine wpAny_newFunctionEnv S.nocell (fun ⟨n, _⟩ hy => S.par n (List.of_mem_zip hy).1) (fun h₁ hns hsb => ⟨lim.fresh _ hsb, PySem.W.kla_codeExpr ?_⟩) S.kind
    have kp : ∀ b o, s.heap.get? b = some o → h₁.get? b = some o := fun b o e => hsb.extBut b o (Nat.ne_of_lt (Heap.lt_size e)) (Heap.get?_push_of_some _ e)
    have I : Inv (NdefX.ncx (L2.CX P w) P w K mg base N (nfOf L cl c') f A outer s (unH cl H) E) [] (NdefX.startF N (preV L) (vs.map some)) (unH cl H) { s with heap := h₁, toks := s.toks + (ps.zip us).length } := NdefX.inv_startN S hr.hd e0' hl r CC hns kp
    refine wpAny_mono ((read c' (hr.deeper _)).run [] _ _ _ Q I (hq c')) (fun v s' h => ?_) fun _ _ z => z
    obtain ⟨v', H', J, rv, q⟩ := h
    exact ⟨v', H', J.os, J.bare, J.base, J.hok, rv, q⟩
  refine PySem.W.kla_callFunE hr.depth ho rfl S.co S.gen rfl (NdefX.codeO_at e0.hok e2) ?_
  rcases e3 with ⟨hd, rfl⟩ | ⟨hd, t0, rfl, e4⟩
  · obtain ⟨rfl, hb⟩ := LB.none_ hd
    rw [hb]
    exact wpAny_pure (enter [] (by unfold preV; rw [hd]; rfl) (by unfold preV; rw [hd]; exact .nil))
  · obtain ⟨p, rfl, hb⟩ := LB.one hd
    obtain ⟨kk, h1, h2⟩ := hb cl t0 doc pm (.ref c') ctv
    obtain ⟨_, its, rv, o, ho2, hc2, n2, hd2⟩ := e0.hok t0 _ e4
    obtain ⟨u0, rfl, ru⟩ := vals1 rv
    refine (BindsTo.of_defaults (T := t0) rfl ho2 hd2 h1 (h2 u0)) _ _ _ _ ?_
    exact enter [u0] (by unfold preV; rw [hd]; rfl) (by unfold preV; rw [hd]; exact .cons ru .nil)
end
end Dv

/-! DwZH: a closure called, at the level of deep values. -/
namespace Dv
open PySem PySem.Spec PyProof.Rows L2
section
variable {T : Tx} {ρ ρ' : List Addr} {G3 H3 H : Hp} {cl : List (Str × Addr)} {h : Heap} {v : V} {d : D}
theorem g3_none (n3 : ∀ a, isCel cl a → H3 a = none) (gh3 : Same G3 H3) : ∀ a, isCel cl a → G3 a = none := fun a c => by
  cases e : G3 a with
  | none => rfl
  | some o => have := gh3 a o e; rw [n3 a c] at this; cases this
theorem repO_back (n3 : ∀ a, isCel cl a → H3 a = none) (gh3 : Same G3 H3) (r : RepO T ρ' G3 H3 (unH cl H) v d) : RepO T ρ' (frzH cl h G3) (frzH cl h H3) H v d := by
  have s := frz_back (h := h) (g3_none n3 gh3)
  cases d with
  | new l =>
    obtain ⟨p, vs, e1, e2, e3, e4, e5, e6, e7⟩ := r
    have c : ¬ isCel cl p := fun c => by rw [n3 p c] at e2; cases e2
    exact ⟨p, vs, e1, by rw [frz_out c]; exact e2, e3.mono s (.refl _), e4, by rw [frz_out c]; exact e5, e6, by rw [un_out c] at e7; exact e7⟩
  | _ => exact Rep.mono s (.refl _) r
theorem exR_back {cls : Value} {dd : Option Addr} {x : Exn} (n3 : ∀ a, isCel cl a → H3 a = none) (gh3 : Same G3 H3) (r : ExR T ρ' G3 H3 cls dd x) : ExR T ρ' (frzH cl h G3) (frzH cl h H3) cls dd x := by
  have s := frz_back (h := h) (g3_none n3 gh3)
  obtain ⟨C, d, vf, e1, e2, e3, e4, e5⟩ := r
  exact ⟨C, d, vf, e1, e2, e3, s _ _ e4, e5.mono s (.refl _)⟩
end
/-! ### what a lambda means, by what it caught -/
def askR : Res D → Res D
  | some (.val d, μ') => if nobor d then some (.val d, μ') else none
  | r => r
def preD (L : LamI) : List D := if L.dfl then [.int 0] else []
def lamM (n : Nat) (L : LamI) (mb : DEx) : List D → Mu → Res D := fun ds μ => askR (mb (envD n (preD L ++ ds)) μ)
structure LamOk (P : Program) (w : World) (K : PySem.W.Frag) (mg : Str → Option Value) (base : Heap) (k : Nat) (L : LamI) (m : List D → Mu → Res D) : Prop where
  ex : ∃ (N ps : List Str) (mb : DEx), NdefX.NScope N ps L.fr L.scope ∧ LamB L ps ∧ (∀ (A : Around) (outer : List Env) (s : Shared) (H : Hp) (E : XK) (f : Addr) (cl : List (Str × Addr)) (c' : Addr) (B : Bs), Room k (A.deeper (NdefX.envF (nfOf L cl c') f s.heap.objs.size)) →
    DE (NdefX.ncx (L2.CX P w) P w K mg base N (nfOf L cl c') f A outer s H E) B (fun cls d _ H => E cls d H) L.body mb) ∧ ∀ ds μ, m ds μ = lamM N.length L mb ds μ
open Classical in
noncomputable def dAskC (i n : Nat) (lams : Nat → LamI) (tab : Nat → List D → Mu → Res D) : DEx := fun env μ => match env[i]? with
  | some (.v (.clo L ds)) => if L.num < n ∧ L = lams L.num ∧ noClos ds = true ∧ μ.all plainM = true then tab L.num ds μ else none
  | _ => none
theorem reps_pre {T : Tx} {ρ : List Addr} {G : Hp} {L : LamI} : Reps T ρ G (preV L) (preD L) := by
  unfold preV preD
  cases L.dfl with
  | false => exact .nil
  | true => exact .one rep_int
theorem startF_eq {N : List Str} {us vs : List V} : NdefX.startF N us (vs.map some) = L2.start N (us ++ vs) := by
  unfold NdefX.startF L2.start
  rw [List.map_append, List.append_assoc, List.length_map, List.length_append, Nat.sub_add_eq]
section
variable {Y : Cx} {B : Bs} {W : WX} {i n k : Nat} {a : Str} {lams : Nat → LamI} {tab : Nat → List D → Mu → Res D} {p1 p2 : Pos}
theorem de_askC (zero : Y.N[i]? = some a) (vis : Vis Y.env.scope a) (d1 : (a == ("__debug__" : Str)) = false) (d2 : (a == ("__classdict__" : Str)) = false) (tk : Takes Y W) (room : Room (k + 1) Y.A)
    (all : ∀ j, j < n → LamOk Y.prog Y.w Y.K Y.mg Y.base k (lams j) (tab j)) : DE Y B W (.Call (.Name a p1) [] [] p2) (dAskC i n lams tab) := by
  refine ⟨⟨fun pins s τ H Q I0 ⟨ρ, G, env, μ, R, kk⟩ => ?_⟩⟩
  unfold dAskC at kk
  split at kk
  · rename_i L ds h0
    split at kk
    · rename_i hc
      obtain ⟨hn, hL, hnc, hpm⟩ := hc
      obtain ⟨v, e1, e2⟩ := R.slot i _ h0
      unfold Rep at e2
      obtain ⟨f, cl, vs, rfl, FA, CA, r⟩ := e2
      have FH := FA.mono R.gh
      have CH := CA.mono R.gh
      have CSG := celSet_of CA
      have CSH := celSet_of CH
      apply wpAny_Call_Name_kw
      refine thn ((pe_var (pos := p1) (i := i) zero vis d1 d2).run pins s τ H (fun v H2 => v = .ref f ∧ H2 = H) I0 ⟨.ref f, e1, rfl, rfl⟩) ?_
      rintro u s1 ⟨v2, H2, I1, rel, e3, e4⟩
      rw [e4] at I1
      rw [e3] at rel
      have eu : u = Value.ref f := rel
      subst eu
      obtain ⟨c0, dV0, g1, _⟩ := FH.ex
      obtain ⟨⟨doc, pm, ctv, ho⟩, _⟩ := I1.hok f _ g1
      apply PySem.W.callWith_F0 ⟨_, _, _, _, ho⟩
      obtain ⟨N, ps, mb, S, LB, read, hm⟩ := (all L.num hn).ex
      rw [← hL] at S LB read hm
      have e0 := I1.env0
      have hm' := hm ds μ
      have runs : codeAny (model Y.prog Y.w) Y.A (.call (.ref f) ⟨[], []⟩) (CR (L2.CX Y.prog Y.w) Y.stack Y.prog Y.w (unH cl H) s1
          (fun v H3 => ∃ ρ' G3 μ' d, tab L.num ds μ = some (.val d, μ') ∧ Ext ρ (unH cl G) (unH cl H) ρ' G3 H3 ∧ Same G3 H3 ∧ StR (tx Y) ρ' G3 H3 μ' ∧ RepO (tx Y) ρ' G3 H3 (unH cl H) v d)
          (fun cls dd H3 => ∃ ρ' G3 μ' x, tab L.num ds μ = some (.exc x, μ') ∧ Ext ρ (unH cl G) (unH cl H) ρ' G3 H3 ∧ Same G3 H3 ∧ StR (tx Y) ρ' G3 H3 μ' ∧ ExR (tx Y) ρ' G3 H3 cls dd x)) s1 := by
        refine run_clo (t := fun c' => fun σ H' Q' => ∃ B', rdE (tx Y) B' (fun cls dd _ H3 => ∃ ρ' G3 μ' x, tab L.num ds μ = some (.exc x, μ') ∧ Ext ρ (unH cl G) (unH cl H) ρ' G3 H3 ∧ Same G3 H3 ∧ StR (tx Y) ρ' G3 H3 μ' ∧ ExR (tx Y) ρ' G3 H3 cls dd x) mb σ H' Q') S LB e0 room FH CH
          (fun c' rm => ⟨fun pins s2 σ2 H2 Q2 I2 ⟨B', q⟩ => (read Y.A Y.stack s1 (unH cl H) _ f cl c' B' rm).run.run pins s2 σ2 H2 Q2 I2 q⟩) fun c' => ?_
        refine ⟨⟨unH cl H, unH cl G, ρ, []⟩, ρ, unH cl G, envD N.length (preD L ++ ds), μ, ?_, ?_⟩
        · rw [startF_eq]
          exact start_rd (same_un CSH R.gh) (R.st.un CSG hpm) (reps_pre.append (r.un CSG hnc))
        · unfold lamM at hm'
          cases e : mb (envD N.length (preD L ++ ds)) μ with
          | none => rw [hm', e] at kk; exact kk.elim
          | some z =>
            obtain ⟨o, μ2⟩ := z
            cases o with
            | exc y =>
              rw [e] at hm'
              exact fun ρ2 G2 H2 cls dd s p R3 er => ⟨ρ2, G2, μ2, y, hm', R3.ext, R3.gh, R3.st, er⟩
            | val d =>
              rw [e] at hm'
              have hm2 : tab L.num ds μ = if nobor d then some (.val d, μ2) else none := hm'
              by_cases clean : nobor d = true
              · rw [if_pos clean] at hm2
                exact fun ρ2 G2 H2 s p R3 v hv => ⟨ρ2, G2, μ2, d, hm2, R3.ext, R3.gh, R3.st, repO_of hv clean⟩
              · rw [if_neg clean] at hm2
                rw [hm2] at kk; exact kk.elim
      refine wpAny_call (codeAny_mono runs fun r s2 out => ?_)
      have at_ := fun a (c : isCel cl a) => cel_obj CSH I1.hok c
      match r, out with
      | .error e, out =>
        have out2 : L2.CX Y.prog Y.w Y.stack H s1 (fun cls d H' => W cls d τ H') e s2 := cx_back CSH e0 out fun cls d H' n3 ⟨ρ', G3, μ', x, et, ex, gh, st, er⟩ => by
          rw [et] at kk
          have ex2 := Ext.back (h := s1.heap) CSG R.gh at_ n3 gh st ex
          exact kk ρ' _ _ cls d ex2.gg ex2.pre (R.after ex2 (gh_back n3 gh) (st.back n3 gh)) (exR_back n3 gh er)
        exact passAt tk τ pins _ s1 e s2 I1 out2
      | .ok (.ret u), out =>
        have out2 : CE Y.stack Y.prog Y.w H s1 Q u s2 := ce_back CSH e0 out fun v H' n3 ⟨ρ', G3, μ', d, et, ex, gh, st, rd⟩ => by
          rw [et] at kk
          have ex2 := Ext.back (h := s1.heap) CSG R.gh at_ n3 gh st ex
          have R2 := R.after ex2 (gh_back n3 gh) (st.back n3 gh)
          exact kk ρ' _ _ ex2.gg ex2.pre R2 v (repX_after R (repO_back n3 gh rd))
        exact I1.after out2
      | .ok .next, out => exact False.elim out
      | .ok .brk, out => exact False.elim out
      | .ok .cont, out => exact False.elim out
    · exact kk.elim
  · exact kk.elim
end
end Dv

/-! DwZI: a def called with a list of lambdas: for the call their cells are tracked. -/
namespace Dv
open PySem PySem.Spec PyProof.Rows L2
/-! ### a lambda and what it has caught -/
def jsOf (N fr : List Str) : List Nat := fr.map fun y => N.idxOf y
def capsC (N : List Str) (sc : Scope) (L : LamI) : Bool := NdefX.ndefB sc L.scope L.fr && decide ((jsOf N L.fr).map (fun j => N[j]?) = L.fr.map some)
def capD (env : DEnv) : List Nat → Option (List D)
  | [] => some []
  | j :: js => match env[j]? with
    | some (.v d) => (match capD env js with
      | some ds => some (d :: ds)
      | none => none)
    | _ => none
open Classical in
noncomputable def cloD (N : List Str) (sc : Scope) (cells : List (Str × Addr)) (env : DEnv) : D → Option D
  | .lam cl L => if cl = cloFrom cells L.scope.names [] ∧ capsC N sc L = true then (match capD env (jsOf N L.fr) with
    | some ds => some (.clo L ds)
    | none => none) else none
  | _ => none
noncomputable def closD (N : List Str) (sc : Scope) (cells : List (Str × Addr)) (env : DEnv) : List D → Option (List D)
  | [] => some []
  | d :: l => match cloD N sc cells env d, closD N sc cells env l with
    | some c, some cs => some (c :: cs)
    | _, _ => none
section
variable {X : Cx} {B : Bs} {W : WX} {pins : List (Addr × Obj)} {σ : L2.St} {H G : Hp} {s : Shared} {ρ : List Addr} {env : DEnv} {μ : Mu}
theorem capD_ok (R : RD (tx X) B ρ G H σ env μ) : ∀ {js : List Nat} {ds : List D}, capD env js = some ds → ∃ vs, js.map (NdefX.slotAt σ) = vs.map some ∧ Reps (tx X) ρ G vs ds
  | [], ds, h => by unfold capD at h; cases h; exact ⟨[], rfl, .nil⟩
  | j :: js, ds, h => by
    unfold capD at h
    split at h
    · rename_i d e
      split at h
      · rename_i ds' e2
        cases h
        obtain ⟨v, e3, r⟩ := R.slot j _ e
        obtain ⟨vs, e4, rs⟩ := capD_ok R e2
        exact ⟨v :: vs, by rw [List.map_cons, e4, NdefX.slotAt_of e3]; rfl, .cons r rs⟩
      · cases h
    · cases h
theorem celFree_of (I : Inv X pins σ H s) : CelFree X.env.cells s.heap H := ⟨fun a ⟨x, e⟩ => I.freeC x a e, fun a ⟨x, e⟩ => I.cell x a e⟩
end
end Dv

/-! DwZJ: why a closure's call ends. -/
namespace Dv
open PySem PySem.Spec PyProof.Rows L2
theorem why_gen (fc : Str → List Str) (d0 : D) (A : DEx) (ask : Mu → Res D) (μ : Mu) (a1 : A (envD 2 [d0]) μ = ask μ) : cleanD (defD 2 (bWhy fc A)) [d0] μ = mWhy fc ask μ := by
  unfold mWhy
  have inner : ∀ (A A' : DEx) (e e' : DEnv), A e μ = A' e' μ → dTup (dCons (dC (.str "told")) (dCons A dNil)) e μ = dTup (dCons (dC (.str "told")) (dCons A' dNil)) e' μ := fun A A' e e' h => by
    unfold dTup dCons dC dNil
    simp only [bindR, Dv.ret, h]
  have e := inner A (fun _ μ => ask μ) (envD 2 [d0]) (envD 2 [.non]) a1
  unfold cleanD defD bWhy dTry dRet
  simp only [bindS, e]
  cases dTup (dCons (dC (.str "told")) (dCons (fun _ μ => ask μ) dNil)) (envD 2 [.non]) μ with
  | none => rfl
  | some z =>
    obtain ⟨o, μ'⟩ := z
    cases o with
    | val d => rfl
    | exc x =>
      simp only []
      by_cases hx : x.cls ∈ fc "code"
      · simp only [hx, if_true]
        have key : ∀ (d0 : D), dBin fAdd (dTup (dCons (dAttr (fc "code") "code" (dVar 1)) dNil)) (dCall (fCall 1 (valOnly (mField fc))) (dCons (dVar 1) dNil)) ((envD 2 [d0]).set 1 (.v (.exn x.cls x.fs))) μ' =
            dBin fAdd (dTup (dCons (dAttr (fc "code") "code" (dC (.exn x.cls x.fs))) dNil)) (dCall (fCall 1 (valOnly (mField fc))) (dCons (dC (.exn x.cls x.fs)) dNil)) [] μ' := fun d0 => rfl
        rw [key, key]
        cases dBin fAdd (dTup (dCons (dAttr (fc "code") "code" (dC (.exn x.cls x.fs))) dNil)) (dCall (fCall 1 (valOnly (mField fc))) (dCons (dC (.exn x.cls x.fs)) dNil)) [] μ' with
        | none => rfl
        | some z2 =>
          obtain ⟨o2, μ2⟩ := z2
          cases o2 <;> rfl
      · simp only [hx, if_false]
/-- _law_why, asked with a closure -/
noncomputable def mWhyC (fc : Str → List Str) (n : Nat) (lams : Nat → LamI) (tab : Nat → List D → Mu → Res D) : Fn := cleanD (defD 2 (bWhy fc (dAskC 0 n lams tab)))
theorem ask_eq {n j : Nat} {lams : Nat → LamI} {tab : Nat → List D → Mu → Res D} {ds : List D} {env : DEnv} {μ : Mu} {i : Nat} (he : env[i]? = some (.v (.clo (lams j) ds))) (hj : j < n) (hn : (lams j).num = j) (hc : noClos ds = true) (hm : μ.all plainM = true) : dAskC i n lams tab env μ = tab j ds μ := by
  unfold dAskC
  rw [he]
  simp only [hn]
  rw [if_pos ⟨hj, trivial, hc, hm⟩]
theorem whyC_eq {fc : Str → List Str} {n j : Nat} {lams : Nat → LamI} {tab : Nat → List D → Mu → Res D} {ds : List D} {μ : Mu} (hj : j < n) (hn : (lams j).num = j) (hc : noClos ds = true) (hm : μ.all plainM = true) : mWhyC fc n lams tab [.clo (lams j) ds] μ = mWhy fc (tab j ds) μ :=
  why_gen fc _ _ _ μ (ask_eq rfl hj hn hc hm)
/-! ### a list of closures, asked one by one -/
/-- the answers, when each ask leaves the store as it was -/
theorem whys_run {fc : Str → List Str} {n : Nat} {lams : Nat → LamI} {tab : Nat → List D → Mu → Res D} {μ : Mu} {i : Nat} {env : DEnv} (hi : i < env.length) (hm : μ.all plainM = true) : ∀ {qs : List (Nat × List D × D)},
    (∀ q ∈ qs, q.1 < n ∧ (lams q.1).num = q.1 ∧ noClos q.2.1 = true ∧ mWhy fc (tab q.1 q.2.1) μ = some (.val q.2.2, μ) ∧ nobor q.2.2 = true) →
      lcRun (tName i) dYes (dCall (fCall 1 (mWhyC fc n lams tab)) (dCons (dVar i) dNil)) env (qs.map fun q => .clo (lams q.1) q.2.1) μ = some (qs.map fun q => hold q.2.2, μ)
  | [], _ => rfl
  | q :: qs, h => by
    obtain ⟨q1, q2, q3, h1, h2⟩ := h q List.mem_cons_self
    have ih := whys_run hi hm fun q hq => h q (List.mem_cons_of_mem _ hq)
    rw [List.map_cons]
    unfold lcRun
    have e : (env.set i (.v (.clo (lams q.1) q.2.1)))[i]? = some (.v (.clo (lams q.1) q.2.1)) := by rw [List.getElem?_set_self hi]
    have e2 : dCall (fCall 1 (mWhyC fc n lams tab)) (dCons (dVar i) dNil) (env.set i (.v (.clo (lams q.1) q.2.1))) μ = some (.val q.2.2, μ) := by
      unfold dCall dCons dVar
      rw [e]
      simp only [bindR, Dv.ret, dNil, hold]
      unfold fCall
      rw [if_pos ⟨rfl, rfl⟩, whyC_eq q1 q2 q3 hm, h1]
    simp only [show tName i env (.clo (lams q.1) q.2.1) = some (env.set i (.v (.clo (lams q.1) q.2.1))) from rfl, show dYes (env.set i (.v (.clo (lams q.1) q.2.1))) μ = some (.val true, μ) from rfl, e2, h2, if_true, ih]
    rfl
end Dv

/-! DwZK: a comprehension in the frame whose lambdas it hands on: its block begins with the frame's cells tracked. -/
namespace Dv
open PySem PySem.Spec PyProof.Rows L2
section
variable {X : Cx} {pins : List (Addr × Obj)} {σ τ : L2.St} {H : Hp} {s s4 : Shared} {cl : List (Str × Addr)} {scope : Scope} {ce : Env} {fp : List Addr}
/-- the block's state, the cells put in -/
theorem blk_frz (hok : HOk X.prog X.w H s.heap) (CF : CelFree cl s.heap H) (nb : ∀ a, isCel cl a → X.base.get? a = none) (nf : ∀ a, isCel cl a → a ∉ frs X.stack) (nl : ¬ isCel cl ce.locals) (nc : ce.cells = [])
    (kp : ∀ b o, s.heap.get? b = some o → s4.heap.get? b = some o) (J : Inv (X.blk s H scope ce fp) [] τ H s4) : Inv (X.blk s (frzH cl s.heap H) scope ce fp) [] τ (frzH cl s.heap H) s4 := by
  have k := J.ok
  refine ⟨⟨k.mod, k.kind, k.glob, k.blt, k.above, k.inj, k.has, k.cab, k.hd, k.frames, k.stk, k.exf, fun b o e => ⟨(k.bs b o e).1, ?_⟩, k.bsz, k.noex, k.exfs, k.funs, fun b m => ?_⟩, J.os, J.bare, Un.kept kp, J.loc, J.cell, ?_, fun x c e => ?_, fun p hp => absurd (show p ∈ ([] : List (Addr × Obj)) ++ [] from hp) (by simp), (hok_frz CF hok).kept kp, J.len⟩
  · show frzH cl s.heap H b = none
    rw [frz_out fun c => by have := nb b c; rw [show X.base.get? b = some o from e] at this; cases this]
    exact (k.bs b o e).2
  · show frzH cl s.heap H b = none
    rw [frz_out fun c => nf b c m]
    exact k.frf b m
  · show frzH cl s.heap H ce.locals = none
    rw [frz_out nl]; exact J.free
  · have e : ce.cells.lookup x = some c := e
    rw [nc] at e
    cases e
theorem un_frzX {fs ex : List Addr} {h h2 : Heap} {H' : Hp} {P : Program} {w : World} (C : CelFree cl h H) (nf : ∀ a, isCel cl a → a ∉ fs) (x : Un fs ex (frzH cl h H) H' h h2) (ok : HOk P w H' h2) : Un fs ex H (unH cl H') h h2 where
  keep := fun b o e n hb hx => by
    by_cases c : isCel cl b
    · have := x.frzs b o _ (show frzH cl h H b = some (.frz o _) from frz_cel c e)
      exact (ok b _ this).1
    · exact x.keep b o e (by rw [frz_out c]; exact n) hb hx
  slot := fun b o e n hb hx => x.slot b o e (by rw [frz_out fun c => nf b c hb]; exact n) hb hx
  free := fun b o e n hx => by
    by_cases c : isCel cl b
    · exact un_cel c
    · rw [un_out c]; exact x.free b o e (by rw [frz_out c]; exact n) hx
  there := fun b o e hx => x.there b o e hx
  tups := fun b xs e => by rw [un_out (C.out e)]; exact x.tups b xs (by rw [frz_out (C.out e)]; exact e)
  frzs := fun b o u e => by rw [un_out (C.out e)]; exact x.frzs b o u (by rw [frz_out (C.out e)]; exact e)
  tbls := fun b ps e => by rw [un_out (C.out e)]; exact x.tbls b ps (by rw [frz_out (C.out e)]; exact e)
theorem celSet_afterX {fs ex : List Addr} {h h2 : Heap} {H' : Hp} (C : CelFree cl h H) (x : Un fs ex (frzH cl h H) H' h h2) : CelSet cl H' := ⟨fun a c => by
  obtain ⟨v, o, e1, e2⟩ := C.cell a c
  exact ⟨o, v, x.frzs a o _ (show frzH cl h H a = some (.frz o _) from frz_cel c e1), e2⟩⟩
end
/-- [elt for tg in iter], read with the cells put in from the block's start -/
def tLcZ (X : Cx) (wi : TI) (g : TG) (te : TE) (vs : List Nat) : TE := fun σ H Q => wi σ H fun J H1 => ∀ (D : Addr) (pins : List (Addr × Obj)) (s : Shared), H1 D = none → ¬ isCel X.env.cells D → Inv X pins σ (upd H1 D (.lst [])) s →
  ∃ W : Nat → Nat → Hp → Prop, (∃ m, W 0 m (frzH X.env.cells s.heap (upd H1 D (.lst [])))) ∧ ∀ i m H, W i m H →
    (J.stop i H ∧ (CelSet X.env.cells H → Q (.ref D) (unH X.env.cells H))) ∨ (J.go i H ∧ ∃ Nx : Hp → Prop, (∀ H', Nx H' → ∃ m', m' < m ∧ W (i + 1) m' H') ∧ ∀ x H', J.yld i H x H' → g x (wipe σ vs) H' fun σ2 H2 => wipe σ2 vs = wipe σ vs ∧
      te σ2 H2 fun y H4 => ∃ acc, H4 D = some (.lst acc) ∧ acc.length < sizeLine ∧ Nx (upd H4 D (.lst (acc ++ [y]))))
section
variable {X : Cx} {elt tg iter : Expr} {scope : Scope} {own : List (Str × Nat)} {pos : Pos} {wi : TI} {g : TG} {te : TE}
theorem cel_big {pins : List (Addr × Obj)} {σ : L2.St} {H : Hp} {s : Shared} (I : Inv X pins σ H s) (hfn : ∀ y a, X.env.cells.lookup y = some a → X.fn y = true) : (∀ b, isCel X.env.cells b → X.base.get? b = none) ∧ ∀ b, isCel X.env.cells b → b ∉ frs X.stack := by
  have big : ∀ b, isCel X.env.cells b → X.s_0.heap.objs.size ≤ b := fun b ⟨y, e⟩ => I.ok.cab y b (hfn y b e) e
  refine ⟨fun b c => Heap.get?_none_of_le (Nat.le_trans I.ok.bsz (big b c)), fun b c mm => ?_⟩
  rcases List.mem_cons.mp (I.stkSub b mm) with e | e
  · obtain ⟨y, ey⟩ := c
    exact I.cne y b ey e
  · obtain ⟨_, o, ho, _⟩ := I.ok.funs.mem e
    exact absurd (Nat.lt_of_lt_of_le (Heap.lt_size ho) (big b c)) (Nat.lt_irrefl _)
theorem cells_nil : ∀ {names : List (Str × NameKind)} {n : Nat}, (∀ y ∈ names, y.2 ≠ .free ∧ y.2 ≠ .cell) → ∀ cells : List (Str × Addr), cellsFrom n names (cloFrom cells names []) = [] := fun {names n} h cells => by
  match e : cellsFrom n names (cloFrom cells names []) with
  | [] => rfl
  | (x, c) :: r =>
    exfalso
    have none_ : cloFrom cells names [] = [] := by
      match e2 : cloFrom cells names [] with
      | [] => rfl
      | q :: r2 =>
        exfalso
        have m : q ∈ cloFrom cells names [] := by rw [e2]; exact List.mem_cons_self
        rcases cloFrom_mem (n := q.1) (c := q.2) m with z | ⟨z, _⟩
        · cases z
        · exact (h _ z).1 rfl
    rw [none_] at e
    have m : (x, c) ∈ cellsFrom n names [] := by rw [e]; exact List.mem_cons_self
    have key : ∀ (ns : List (Str × NameKind)) (k : Nat) (acc : List (Str × Addr)), (∀ y ∈ ns, y.2 ≠ .free ∧ y.2 ≠ .cell) → cellsFrom k ns acc = acc := by
      intro ns
      induction ns with
      | nil => intro k acc _; rfl
      | cons y ys ih =>
        intro k acc hh
        obtain ⟨y1, y2⟩ := y
        have := hh _ List.mem_cons_self
        unfold cellsFrom
        cases y2 <;> first | exact absurd rfl this.1 | exact absurd rfl this.2 | exact ih _ _ fun z hz => hh z (List.mem_cons_of_mem _ hz)
    rw [key names n [] h] at m
    cases m
theorem lc_runZ (hc : X.calm = true) (hN : X.N.Nodup) (hfn : ∀ y a, X.env.cells.lookup y = some a → X.fn y = true) (hi : PI X tg iter wi) (ok : BlkOk X.N X.env.scope scope own) (nof : ∀ y ∈ scope.names, y.2 ≠ .free ∧ y.2 ≠ .cell)
    (hg : ∀ (s : Shared) (H : Hp) (C : Addr) (cl : List (Str × Addr)) (fp : List Addr), PG (X.blk s H scope (compEnvC scope cl C X.env) fp) tg g)
    (he : ∀ (s : Shared) (H : Hp) (C : Addr) (cl : List (Str × Addr)) (fp : List Addr), PE (X.blk s H scope (compEnvC scope cl C X.env) fp) elt te) (hs : ∀ x, foldedSetIterable iter X.env x = pure x := by intro _; rfl) :
    PE X (.ListComp elt [⟨tg, iter, [], 0⟩] scope pos) (tLcZ X wi g te (own.map (·.2))) := by
  refine ⟨fun pins s σ H Q I h => ?_⟩
  rw [eval_ListComp]
  have clo : ∀ y ∈ scope.names, y.2 = .free → ∃ c, X.env.cells.lookup y.1 = some c := fun y hy e => absurd e (nof y hy).1
  refine wpAny_comprehension_free (use := none) rfl hs (closure_ok clo) ok.kind (fun y hy e => by rw [ok.uniq y hy, e]) (thn (hi.run pins s σ H _ I h) fun _ _ got => thn got fun itv sA arrived => ?_)
  obtain ⟨it, fp, tn, J, HA, eit, IA, walk, sat, alone, plan⟩ := arrived
  subst eit
  refine wpAny_newObj_type (newEnv_comp ?_) (by show 0 ≤ sizeLine; decide)
  generalize eD : sA.heap.objs.size = D
  have freeD : HA D = none := IA.hok.fresh (Nat.le_of_eq eD)
  generalize eB : ({ sA with heap := sA.heap.push { cls := .type "list", data := .seq ([] : List Value).toArray } } : Shared) = sB
  have hB : sB.heap = sA.heap.push { cls := .type "list", data := .seq ([] : List Value).toArray } := by rw [← eB]
  have IB : Inv X pins σ (upd HA D (.lst [])) sB := by
    rw [← eB]
    exact IA.laid (t' := sA.toks) (fun b o e => Heap.get?_push_of_some _ e) (Nat.le_of_eq eD) ⟨Nat.zero_le _, [], 0, .nil, by rw [← eD]; exact Heap.get?_push_size _ rfl⟩
  have celLt : ∀ {a : Addr}, isCel X.env.cells a → a < sA.heap.objs.size := fun {a} ⟨y, e⟩ => by
    obtain ⟨v, o, q, _⟩ := IA.cell y a e
    exact Heap.lt_size q
  have ncD : ¬ isCel X.env.cells D := fun c => by have := celLt c; rw [eD] at this; exact Nat.lt_irrefl _ this
  obtain ⟨W, ⟨m0, w0⟩, turn⟩ := plan D pins sB freeD ncD IB
  have fpB : ∀ b ∈ fp, FpOk X pins (upd HA D (.lst [])) b ∧ b < sB.heap.objs.size := fun b hb => by
    obtain ⟨o, q, _⟩ := walk.obj _ _ sat b hb
    have lt := Heap.lt_size q
    exact ⟨⟨by rw [upd_ne (fun e => by rw [e, eD] at lt; exact Nat.lt_irrefl _ lt)]; exact (alone b hb).1, (alone b hb).2⟩, by rw [hB, Heap.size_push]; exact Nat.lt_succ_of_lt lt⟩
  have blk := block_start IB ok hN fpB
  have CF := celFree_of IB
  obtain ⟨nb, nf⟩ := cel_big IB hfn
  have pg := hg sB (frzH X.env.cells sB.heap (upd HA D (.lst []))) sB.heap.objs.size (cellsFrom (sB.heap.objs.size + 1) scope.names (cloFrom X.env.cells scope.names [])) fp
  have pe := he sB (frzH X.env.cells sB.heap (upd HA D (.lst []))) sB.heap.objs.size (cellsFrom (sB.heap.objs.size + 1) scope.names (cloFrom X.env.cells scope.names [])) fp
  show codeAny _ _ (.compStart (.ListComp elt [⟨tg, iter, [], 0⟩] scope pos) 0 (.ref it) (.ref D) (compEnvC scope (cellsFrom (sB.heap.objs.size + 1) scope.names (cloFrom X.env.cells scope.names [])) sB.heap.objs.size X.env)) (compPost (model X.prog X.w) X.A X.xe none _ (.ref D) sB.heap.objs.size) { sB with heap := pushCells (sB.heap.push { cls := .type "dict", data := .dict #[] }) scope.names }
  generalize ece : compEnvC scope (cellsFrom (sB.heap.objs.size + 1) scope.names (cloFrom X.env.cells scope.names [])) sB.heap.objs.size X.env = ce at blk pg pe ⊢
  have ceL : ce.locals = sB.heap.objs.size := by rw [← ece]; rfl
  have ceC : ce.cells = [] := by rw [← ece]; exact cells_nil nof _
  generalize eC : ({ sB with heap := pushCells (sB.heap.push { cls := .type "dict", data := .dict #[] }) scope.names } : Shared) = sC at blk ⊢
  have grown : ∀ b o, sB.heap.get? b = some o → sC.heap.get? b = some o := fun b o e => by rw [← eC]; exact pushCells_keeps _ _ _ _ (Heap.get?_push_of_some _ e)
  have Z := blk_frz IB.hok CF nb nf (fun c => by rw [ceL] at c; have := celLt c; rw [hB, Heap.size_push] at this; exact Nat.lt_irrefl _ (Nat.lt_of_succ_lt this)) ceC grown blk
  have outfp : ∀ b ∈ fp, ¬ isCel X.env.cells b := fun b hb ⟨y, e⟩ => (alone b hb).2.2.2.2.1 y b e rfl
  obtain ⟨HZ, eHZ⟩ : ∃ HZ, frzH X.env.cells sB.heap (upd HA D (.lst [])) = HZ := ⟨_, rfl⟩
  have nfp : ∀ b ∈ fp, HZ b = none := fun b hb => by rw [← eHZ, frz_out (outfp b hb)]; exact (fpB b hb).1.1
  have unB : ∀ {ex : List Addr} {H' : Hp} {h2 : Heap}, Un (frs X.stack) ex HZ H' sB.heap h2 → HOk X.prog X.w H' h2 → CelSet X.env.cells H' ∧ Un (frs X.stack) ex (upd HA D (.lst [])) (unH X.env.cells H') sB.heap h2 := fun {ex H' h2} x hk => by
    rw [← eHZ] at x
    exact ⟨celSet_afterX CF x, un_frzX CF nf x hk⟩
  rw [eHZ] at Z pg pe w0
  have satC : tn 0 sC.heap := walk.keep _ _ _ sat fun b _ o e => grown b o (by rw [hB]; exact Heap.get?_push_of_some _ e)
  have still : ∀ {τ : L2.St} {H' : Hp} {s' : Shared}, Inv (X.blk sB HZ scope ce fp) [] τ H' s' → (∀ b ∈ fp, H' b = none) → ∀ b ∈ fp, FpOk (X.blk sB HZ scope ce fp) [] H' b := fun {τ H' s'} K n b hb =>
    ⟨n b hb, (K.ok.exf b hb).1, K.ok.exfs b hb, .inl hb, (K.ok.exf b hb).2, fun p hp => absurd (show p ∈ ([] : List (Addr × Obj)) ++ [] from hp) (by simp)⟩
  have loop : codeAny (model X.prog X.w) X.A (.compLoop (.ListComp elt [⟨tg, iter, [], 0⟩] scope pos) 0 (.ref it) (.ref D) ce) (compPost (model X.prog X.w) X.A X.xe none (EP X pins σ Q) (.ref D) sB.heap.objs.size) sC := by
    refine compLoop_any (fun n s' => ∃ i H', Inv (X.blk sB HZ scope ce fp) [] (wipe σ (own.map (·.2))) H' s' ∧ tn i s'.heap ∧ (∀ b ∈ fp, H' b = none) ∧ W i n H') ?_ m0 ⟨0, HZ, Z, satC, nfp, w0⟩
    rintro n s1 ⟨i, H1, I1, t1, n1, w1⟩
    rcases turn i n H1 w1 with ⟨halt, told⟩ | ⟨more, Nx, nxt, step⟩
    · refine thnF (walk.done (X.blk sB HZ scope ce fp) rfl rfl rfl hc i [] s1 _ H1 (fun _ _ => False) I1 (still I1 n1) t1 halt) fun r s2 ⟨er, I2⟩ => ?_
      subst er
      obtain ⟨CS, un⟩ := unB I2.base I2.hok
      have IX : Inv X pins σ (unH X.env.cells H1) s2 := IB.call' (ch := fp) I2.os un (hok_un CS I2.hok) I2.bare fun b hb => ⟨(fpB b hb).1.2.2.2.1, (fpB b hb).1.2.1, (fpB b hb).1.2.2.2.2.1, (fpB b hb).1.2.2.2.2.2⟩
      have nC : unH X.env.cells H1 sB.heap.objs.size = none := by
        have z : H1 ce.locals = none := I2.free
        rw [ceL] at z
        by_cases c : isCel X.env.cells sB.heap.objs.size
        · exact un_cel c
        · rw [un_out c]; exact z
      obtain ⟨m, hn, _⟩ := I2.loc
      have hn : s2.heap.Ns ce.locals m := hn
      rw [ceL] at hn
      obtain ⟨f0, f1, f2, f3, f4, f5⟩ := IB.fpOk (H' := unH X.env.cells H1) (Nat.le_refl _) nC
      exact ⟨m, hn, fun h'' sb => ⟨.ref D, _, IX.turned (t' := s2.toks) (fun b o hb e => (sb.2 b hb).trans e) f0 f1 f3 f4 f5, rfl, told CS⟩⟩
    · refine thnF (walk.item (X.blk sB HZ scope ce fp) rfl rfl rfl hc i [] s1 _ H1 (fun _ _ => False) I1 (still I1 n1) t1 more) fun r s2 ⟨u, er, rest⟩ => ?_
      subst er
      refine thnF rest fun _ s3 ⟨x, H3, I3, r3, y3, t3, n3⟩ => ?_
      have I3' := I3.pinned (still I3 n3) (walk.obj _ _ t3)
      refine thnF (pg.run _ s3 _ H3 x u _ I3' r3 (step x H3 y3)) fun _ s4 ⟨σ4, H4, I4, hw, q4⟩ => ?_
      refine thnF ((pts_nil (X := X.blk sB HZ scope ce fp)).run _ s4 σ4 H4 (fun b H' => b = true ∧ H' = H4) I4 ⟨rfl, rfl⟩) fun b s5 ⟨H5, I5, eb, e5⟩ => ?_
      subst eb
      rw [e5] at I5
      simp only [if_true]
      refine thnF (pe.run _ s5 σ4 H4 _ I5 q4) fun z s6 ⟨yv, H6, I6, r6, acc, a6, l6, nx⟩ => ?_
      refine app_ok (X := X.blk sB HZ scope ce fp) I6 a6 l6 r6 fun s7 I7 => ?_
      obtain ⟨m', hm, w'⟩ := nxt _ nx
      have held : ∀ b ∈ fp, ∀ o, s3.heap.get? b = some o → s7.heap.get? b = some o ∧ upd H6 D (.lst (acc ++ [yv])) b = none := fun b hb o e =>
        let z := I7.pin (b, o) (List.mem_append_right _ (List.mem_append_right _ (mem_pinsAt hb e)))
        ⟨z.1, z.2.1⟩
      refine ⟨m', hm, i + 1, _, (I7.unpinned (pins := [])).weak (by rw [← hw, wipe_length]) (fun j v e => ?_), walk.keep _ _ _ t3 fun b hb o e => (held b hb o e).1, fun b hb => ?_, w'⟩
      · rw [← hw] at e
        exact (wipe_some e).1
      · obtain ⟨o, e, _⟩ := walk.obj _ _ t3 b hb
        exact (held b hb o e).2
  exact codeAny_compStart_list loop (walk.self X.A 0 _ _ _ satC loop)
end
end Dv

/-! DwZL: the same at the level of deep values. -/
namespace Dv
open PySem PySem.Spec PyProof.Rows L2
section
variable {T : Tx} {B : Bs} {ρ : List Addr} {G H : Hp} {σ : L2.St} {env : DEnv} {μ : Mu} {cl : List (Str × Addr)} {h : Heap}
theorem unown_get {i : Nat} {s : SV} (e : (env.map unown)[i]? = some s) : (∀ l, s ≠ .own l) ∧ ∃ s0, env[i]? = some s0 ∧ s = unown s0 := by
  rw [List.getElem?_map] at e
  cases e0 : env[i]? with
  | none => rw [e0] at e; cases e
  | some s0 =>
    rw [e0] at e
    cases e
    exact ⟨fun l => by cases s0 <;> (intro z; cases z), s0, rfl, rfl⟩
/-- a block of its own, the cells put in -/
theorem RD.frzU (R : RD T B ρ G H σ env μ) (CF : CelFree cl h H) : RD T ⟨frzH cl h H, frzH cl h G, ρ, []⟩ ρ (frzH cl h G) (frzH cl h H) σ (env.map Dv.unown) μ := by
  refine ⟨gh_frz CF R.gh, .refl _ _ _, by rw [List.length_map]; exact R.len, fun i s e => ?_, fun i j l l' p e1 _ _ _ => absurd rfl ((unown_get e1).1 l), R.st.frz CF R.gh, fun q hq => absurd hq (by simp), by simp⟩
  obtain ⟨n, s0, e0, es⟩ := unown_get e
  have hs := R.slot i s0 e0
  cases s with
  | no => trivial
  | own l => exact absurd rfl (n l)
  | v d =>
    cases s0 with
    | no => cases es
    | own l => cases es
    | v d0 =>
      cases es
      obtain ⟨v, e1, r⟩ := hs
      exact ⟨v, e1, r.mono (same_frz CF R.gh) (.refl _)⟩
end
section
variable {X : Cx} {B : Bs} {W : WX} {pins : List (Addr × Obj)} {σ : L2.St} {H G : Hp} {s : Shared} {ρ : List Addr} {env : DEnv} {μ : Mu}
theorem cloD_to (I : Inv X pins σ H s) (R : RD (tx X) B ρ G H σ env μ) {d c : D} (h : cloD X.N X.env.scope X.env.cells env d = some c) {ρ' : List Addr} {G' : Hp} (sG : Same (frzH X.env.cells s.heap G) G') (p : Pre ρ ρ') {v : V} (r : Rep (tx X) ρ' G' v d) : Rep (tx X) ρ' G' v c := by
  have CF := celFree_of I
  have sm : Same G G' := (same_frz CF R.gh).trans sG
  unfold cloD at h
  split at h
  · rename_i cl L
    split at h
    · rename_i hc
      obtain ⟨hcl, hcap⟩ := hc
      split at h
      · rename_i ds e
        cases h
        unfold Rep at r
        obtain ⟨f, rfl, FA⟩ := r
        obtain ⟨vs, e1, rs⟩ := capD_ok R e
        unfold capsC at hcap
        simp only [Bool.and_eq_true, decide_eq_true_eq] at hcap
        have cp : NdefX.Caps X (cloFrom X.env.cells L.scope.names []) L.fr (jsOf X.N L.fr) := NdefX.Caps.made I.ok (NdefX.ndef_free hcap.1) (NdefX.ndef_fr hcap.1) hcap.2
        have CA := NdefX.cells_of I cp
        rw [e1] at CA
        have hl := CA.len
        rw [List.length_map] at hl
        unfold Rep
        refine ⟨f, cl, vs, rfl, FA, ⟨hl, fun y a e => ?_, by rw [hcl]; exact CA.inj, fun i y e => ?_⟩, rs.mono sm p⟩
        · rw [hcl] at e
          obtain ⟨_, v, o, e2, e3⟩ := CA.all y a e
          exact ⟨o, v, sG _ _ (frz_cel ⟨y, cp.sub y a e⟩ e2), e3⟩
        · obtain ⟨c, e2, e3⟩ := CA.has i y e
          have hi : i < vs.length := by rw [hl]; exact (List.getElem?_eq_some_iff.mp e).1
          obtain ⟨u, ru, o, e4, e5⟩ := e3 vs[i] (by rw [List.getElem?_map]; simp [hi])
          exact ⟨c, o, u, vs[i], by rw [hcl]; exact e2, sG _ _ (frz_cel ⟨y, cp.sub y c e2⟩ e4), e5, by simp [hi], ru⟩
      · cases h
    · cases h
  · cases h
theorem closD_len {N : List Str} {sc : Scope} {cells : List (Str × Addr)} : ∀ {l cs : List D}, closD N sc cells env l = some cs → cs.length = l.length
  | [], cs, h => by unfold closD at h; cases h; rfl
  | d :: l, cs, h => by
    unfold closD at h
    split at h
    · rename_i c cs' e1 e2
      cases h
      rw [List.length_cons, List.length_cons, closD_len e2]
    · cases h
theorem closD_get {N : List Str} {sc : Scope} {cells : List (Str × Addr)} : ∀ {l cs : List D} {i : Nat} {c : D}, closD N sc cells env l = some cs → cs[i]? = some c → ∃ d, l[i]? = some d ∧ cloD N sc cells env d = some c
  | [], cs, i, c, h, e => by unfold closD at h; cases h; simp at e
  | d :: l, cs, i, c, h, e => by
    unfold closD at h
    split at h
    · rename_i c0 cs' e1 e2
      cases h
      cases i with
      | zero => simp at e; subst e; exact ⟨d, rfl, e1⟩
      | succ i => obtain ⟨d', e3, e4⟩ := closD_get e2 (by simpa using e); exact ⟨d', by simpa using e3, e4⟩
    · cases h
/-! ### the comprehension -/
noncomputable def lcFinZ (N : List Str) (sc : Scope) (cells : List (Str × Addr)) (own : List Nat) (tg : DTg) (el : DEx) (env : DEnv) (ds : List D) (μ : Mu) : Res D := match closD N sc cells env ds with
  | some cs => (match lcRun tg dYes el (wipeD (env.map unown) own) cs μ with
    | some (l, μ1) => if noClos l = true ∧ μ1.all plainM = true then ret (.new l) μ1 else none
    | none => none)
  | none => none
noncomputable def dLcZ (N : List Str) (sc : Scope) (cells : List (Str × Addr)) (it : DEnv → Mu → Res (List D)) (own : List Nat) (tg : DTg) (el : DEx) : DEx := fun env μ => bindR (it env μ) (lcFinZ N sc cells own tg el env)
theorem noOwn_unown {vs : List Nat} : noOwn (env.map unown) vs = true := by
  unfold noOwn
  refine List.all_eq_true.mpr fun i _ => ?_
  split
  · rename_i l e
    exact absurd rfl ((unown_get e).1 _)
  · rfl
theorem rd_lcZ {J : It} {g : TG} {tg : DTg} {is : List Nat} {el : DEx} {vs : List Nat} {ρ1 : List Addr} {G1 H1 : Hp} {μ1 μf : Mu} {ds cs l : List D} {Q : VK} (gd : GD X.K X.mg g tg is) (his : ∀ i ∈ is, i ∈ vs)
    (R1 : RD (tx X) B ρ1 G1 H1 σ env μ1) (wk : WalkD (tx X) J ρ1 G1 ds) (hcs : closD X.N X.env.scope X.env.cells env ds = some cs) (hr : lcRun tg dYes el (wipeD (env.map unown) vs) cs μ1 = some (l, μf)) (hok : noClos l = true ∧ μf.all plainM = true)
    (fin : ∀ ρ' G' H' v, Same G1 G' → Pre ρ1 ρ' → RD (tx X) B ρ' G' H' σ env μf → RepX (tx X) B ρ' G' H' σ env v (.new l) → Q v H') (D : Addr) (pins : List (Addr × Obj)) (s : Shared) (hD : H1 D = none) (ncD : ¬ isCel X.env.cells D) (I : Inv X pins σ (upd H1 D (.lst [])) s) :
    ∃ W : Nat → Nat → Hp → Prop, (∃ m, W 0 m (frzH X.env.cells s.heap (upd H1 D (.lst [])))) ∧ ∀ i m H, W i m H →
      (J.stop i H ∧ (CelSet X.env.cells H → Q (.ref D) (unH X.env.cells H))) ∨ (J.go i H ∧ ∃ Nx : Hp → Prop, (∀ H', Nx H' → ∃ m', m' < m ∧ W (i + 1) m' H') ∧ ∀ x H', J.yld i H x H' → g x (wipe σ vs) H' fun σ2 H2 => wipe σ2 vs = wipe σ vs ∧
        exE (tx X) el σ2 H2 fun y H4 => ∃ acc, H4 D = some (.lst acc) ∧ acc.length < sizeLine ∧ Nx (upd H4 D (.lst (acc ++ [y])))) := by
  have len := closD_len hcs
  have Ra := R1.allocN (o := .lst []) hD
  have CFa := celFree_of I
  have CF : CelFree X.env.cells s.heap H1 := ⟨fun a c => by
    have hne : a ≠ D := fun e => ncD (by rw [← e]; exact c)
    have := CFa.none_ a c
    rw [upd_ne hne] at this
    exact this, CFa.cell⟩
  have eqH : frzH X.env.cells s.heap (upd H1 D (.lst [])) = upd (frzH X.env.cells s.heap H1) D (.lst []) := by
    funext b
    by_cases c : isCel X.env.cells b
    · have hne : b ≠ D := fun e => ncD (by rw [← e]; exact c)
      rw [upd_ne hne]
      obtain ⟨v, o, e, _⟩ := CF.cell b c
      rw [frz_cel c e, frz_cel c e]
    · rw [frz_out c]
      by_cases e : b = D
      · rw [e, upd_same, upd_same]
      · rw [upd_ne e, upd_ne e, frz_out c]
  have RZ := R1.frzU CF
  have hDZ : frzH X.env.cells s.heap H1 D = none := by rw [frz_out ncD]; exact hD
  obtain ⟨gD, pD, bD⟩ := RZ.fresh_ hDZ
  have no : noOwn (env.map unown) vs = true := noOwn_unown
  have Sg : Same G1 (frzH X.env.cells s.heap G1) := same_frz CF R1.gh
  refine ⟨fun i m H' => ∃ ρ' G' μ' us acc rest, m = ds.length - i ∧ i ≤ ds.length ∧ Same (frzH X.env.cells s.heap G1) G' ∧ Pre ρ1 ρ' ∧ RD (tx X) ((⟨frzH X.env.cells s.heap H1, frzH X.env.cells s.heap G1, ρ1, []⟩ : Bs).add D us) ρ' G' H' σ (env.map unown) μ' ∧ Reps (tx X) ρ' G' us acc ∧ acc.length ≤ i ∧ lcRun tg dYes el (wipeD (env.map unown) vs) (cs.drop i) μ' = some (rest, μf) ∧ acc ++ rest = l,
    ⟨ds.length, ρ1, _, μ1, [], [], l, by omega, Nat.zero_le _, fun _ _ h => h, .refl _, ?_, .nil, Nat.le_refl _, hr, rfl⟩, ?_⟩
  · rw [eqH]
    exact (RZ.allocN hDZ).addX upd_same gD pD bD (fun i l' e1 _ => absurd rfl ((unown_get e1).1 l')) fun q hq => absurd hq (by simp)
  · rintro i m H' ⟨ρ', G', μ', us, acc, rest, rfl, hi, sg, p, R, ra, la, hrun, hl⟩
    by_cases hlt : i < ds.length
    · have hd : ds[i]? = some ds[i] := by simp [hlt]
      have hltc : i < cs.length := by rw [len]; exact hlt
      obtain ⟨d1, ed1, hclo⟩ := closD_get hcs (show cs[i]? = some cs[i] by simp [hltc])
      rw [hd] at ed1
      cases ed1
      obtain ⟨jg, jy⟩ := wk.go i _ hd ρ' G' H' (Sg.trans sg) p R.gh
      refine .inr ⟨jg, fun H'' => ∃ ρ2 G2 μ2 us2 acc2 rest2, Same (frzH X.env.cells s.heap G1) G2 ∧ Pre ρ1 ρ2 ∧ RD (tx X) ((⟨frzH X.env.cells s.heap H1, frzH X.env.cells s.heap G1, ρ1, []⟩ : Bs).add D us2) ρ2 G2 H'' σ (env.map unown) μ2 ∧ Reps (tx X) ρ2 G2 us2 acc2 ∧ acc2.length ≤ i + 1 ∧ lcRun tg dYes el (wipeD (env.map unown) vs) (cs.drop (i + 1)) μ2 = some (rest2, μf) ∧ acc2 ++ rest2 = l,
        fun H'' ⟨ρ2, G2, μ2, us2, acc2, rest2, h1, h2, h3, h4, h5, h6, h7⟩ => ⟨ds.length - (i + 1), by omega, ρ2, G2, μ2, us2, acc2, rest2, rfl, hlt, h1, h2, h3, h4, h5, h6, h7⟩, fun x H'' hy => ?_⟩
      have item : H'' = H' ∧ Rep (tx X) ρ' G' x cs[i] := by
        rcases jy x H'' hy with ⟨e, r⟩ | ⟨q, ws, l', hn, e, ex, ed, r, z⟩
        · exact ⟨e, cloD_to I Ra hclo sg p r⟩
        · rw [ed] at hclo
          unfold cloD at hclo
          cases hclo
      obtain ⟨eH, rx⟩ := item
      subst eH
      rw [List.drop_eq_getElem_cons hltc] at hrun
      unfold lcRun at hrun
      split at hrun
      · cases hrun
      · rename_i env1 he1
        have hout := gd.out _ _ _ he1
        refine gd.ok _ ρ' G' H'' (wipe σ vs) (wipeD (env.map unown) vs) μ' x _ env1 _ (R.wipe vs) rx he1 fun σ2 R3 hw ho => ⟨by rw [hw vs his]; exact wipe_wipe, ?_⟩
        have agE : ∀ j, j ∉ vs → env1[j]? = (env.map unown)[j]? := fun j hj => by rw [hout j fun m => hj (his j m), wipeD_out hj]
        have agS : ∀ j, j ∉ vs → σ2[j]? = σ[j]? := fun j hj => by rw [ho j fun m => hj (his j m), wipe_out hj]
        have yes : dYes env1 μ' = some (.val true, μ') := rfl
        rw [yes] at hrun
        simp only at hrun
        split at hrun
        · rename_i d' μ3 he
          split at hrun
          · rename_i hb
            split at hrun
            · rename_i l3 μ4 hrest
              cases hrun
              refine ⟨_, ρ', G', env1, μ', R3, ?_⟩
              rw [he]
              intro ρ4 G4 H4 s4 p4 R5 y hy2
              obtain ⟨G5, s5, R6, hh⟩ := hy2.hold R5
              have ry := hh.rep (hold_nobor hb)
              have S : Same G' G5 := s4.trans s5
              have R7 := R.back R6 S p4 no agE agS
              have hD4 := R7.delX.2.1
              have hul : us.length = acc.length := ra.length
              refine ⟨us, hD4, szl_line' (by omega : us.length < ds.length) wk.sz, ρ4, G5, μ3, us ++ [y], acc ++ [Dv.hold d'], l3, sg.trans S, p.trans p4, R7.updX, (ra.mono S p4).append (.one ry), by simp; omega, hrest, by rw [← hl]; simp⟩
            · cases hrun
          · cases hrun
        · cases hrun
    · have e : i = ds.length := by omega
      subst e
      rw [show cs.drop ds.length = [] from by rw [← len]; exact List.drop_length] at hrun
      unfold lcRun at hrun
      cases hrun
      refine .inl ⟨wk.stop ρ' G' H' (Sg.trans sg) p R.gh, fun CS => ?_⟩
      obtain ⟨R0, h1, h2, h3, h4, h5, h6⟩ := R.delX
      rw [List.append_nil] at hl
      subst hl
      have CG : CelSet X.env.cells G' := (celSet_frz (G := G1) CF).mono sg
      have ex2 := Ext.un CF R1.gh R0.gh R0.ext
      have R2 := R1.after ex2 (same_un CS R0.gh) (R0.st.un CG hok.2)
      exact fin ρ' _ _ (.ref D) ex2.gg ex2.pre R2 (repX_after R1 ⟨D, us, rfl, by rw [un_out ncD]; exact h1, ra.un CG hok.1, Nat.le_trans la wk.sz, by rw [un_out ncD]; exact h2, h3, hD⟩)
theorem de_lcZ {elt tg iter : Expr} {scope : Scope} {own : List (Str × Nat)} {pos : Pos} {it : DEnv → Mu → Res (List D)} {g : TG} {t : DTg} {is : List Nat} {el : DEx}
    (hc : X.calm = true) (hN : X.N.Nodup) (hfn : ∀ y a, X.env.cells.lookup y = some a → X.fn y = true) (hi : DI X B W tg iter it) (ok : BlkOk X.N X.env.scope scope own) (nof : ∀ y ∈ scope.names, y.2 ≠ .free ∧ y.2 ≠ .cell) (gd : GD X.K X.mg g t is) (his : ∀ i ∈ is, i ∈ own.map (·.2))
    (hg : ∀ (s : Shared) (H : Hp) (C : Addr) (cl : List (Str × Addr)) (fp : List Addr), PG (X.blk s H scope (compEnvC scope cl C X.env) fp) tg g)
    (he : ∀ (s : Shared) (H : Hp) (C : Addr) (cl : List (Str × Addr)) (fp : List Addr) (B : Bs), DE (X.blk s H scope (compEnvC scope cl C X.env) fp) B W0 elt el) (hs : ∀ x, foldedSetIterable iter X.env x = pure x := by intro _; rfl) :
    DE X B W (.ListComp elt [⟨tg, iter, [], 0⟩] scope pos) (dLcZ X.N X.env.scope X.env.cells it (own.map (·.2)) t el) := by
  refine ⟨peImp (lc_runZ (te := exE (tx X) el) hc hN hfn hi.run ok nof hg (fun s H C cl fp => pe_ex (he s H C cl fp)) hs) fun σ H Q ⟨ρ, G, env, μ, R, k⟩ => ?_⟩
  refine ⟨ρ, G, env, μ, R, (KE.bind (f := lcFinZ X.N X.env.scope X.env.cells (own.map (·.2)) t el env) k).imp fun ρ1 G1 H1 μ1 ds s p R1 k1 J wk => ?_⟩
  unfold lcFinZ at k1
  split at k1
  · rename_i cs hcs
    split at k1
    · rename_i l μ2 hr
      split at k1
      · rename_i hok
        exact fun D pins s' hD ncD I => rd_lcZ gd his R1 wk hcs hr hok (fun ρ' G' H' v s' p' R' hv => k1 ρ' G' H' s' p' R' v hv) D pins s' hD ncD I
      · exact k1.elim
    · exact k1.elim
  · exact k1.elim
end
end Dv

/-! DwZM: a def whose meaning may speak of the cells of its own frame. -/
namespace Dv
open PySem PySem.Spec PyProof.Rows L2
/-- whatever the cells of its frame will be -/
def spL (T : Tx) (n : Nat) (m : List (Str × Addr) → Fn) : Sp := fun vs H Q E => vs.length = n ∧ ∃ ρ G ds μ, Same G H ∧ StR T ρ G H μ ∧ Reps T ρ G vs ds ∧ ∀ cells, KC T ρ G H Q E (m cells ds μ)
section
variable {P : Program} {w : World} {K : PySem.W.Frag} {mg : Str → Option Value} {base : Heap} {x qual : Str} {params : Arguments} {body : List Stmt} {scope : Scope} {fd : FuncData} {pl : Str × Option Str}
theorem def_okL {N ps : List Str} {k : Nat} {m : List (Str × Addr) → DSt} (F : FunD K x qual params body scope [] [] (He.fAd K pl) fd) (S : FnScope N ps scope)
    (hbody : ∀ (A : Around) (outer : List Env) (s : Shared) (H : Hp) (E : XK) (B : Bs), Room k (A.deeper (envOfC qual scope s.heap.objs.size (He.fAd K pl) (.ref (He.codeOf K pl)))) → DSs (cxOf (L2.CX P w) P w K mg base N qual scope (He.fAd K pl) (.ref (He.codeOf K pl)) A outer s H E) B (fun cls d _ H => E cls d H) body (m (envOfC qual scope s.heap.objs.size (He.fAd K pl) (.ref (He.codeOf K pl))).cells)) :
    FnOk P w K mg base (L2.CX P w) (k + 1) (He.fAd K pl) fd ps (spL ⟨K, mg⟩ ps.length fun cells => cleanD (defD N.length (m cells))) := by
  obtain ⟨oc, od, dV, kV, doc, pm, an, cdv, ct, osl, rfl, lk, hcd, _, _⟩ := F.ex
  obtain ⟨c, rfl⟩ := He.codeIn_ref hcd
  have ec : He.codeOf K pl = c := He.codeOf_eq lk rfl
  subst ec
  refine fn_of lk hcd S (fun vs H Q E h => h.1) fun A outer s H vs Q E hr h => ?_
  obtain ⟨hl, ρ, G, ds, μ, gh, st, rs, all⟩ := h
  have told := all (envOfC qual scope s.heap.objs.size (He.fAd K pl) (.ref (He.codeOf K pl))).cells
  refine ⟨_, (hbody A outer s H E ⟨H, G, ρ, []⟩ hr).run, ρ, G, envD N.length ds, μ, start_rd gh st rs, ?_⟩
  unfold cleanD defD at told
  simp only [] at told
  cases e : m (envOfC qual scope s.heap.objs.size (He.fAd K pl) (.ref (He.codeOf K pl))).cells (envD N.length ds) μ with
  | none => rw [e] at told; exact told.elim
  | some z =>
    obtain ⟨o, env', μ'⟩ := z
    rw [e] at told
    match o, told with
    | .exc y, told => exact fun σ' ρ' G' H' cls dd s p R er => told cls dd ρ' G' H' R.ext R.gh R.st er
    | .val .nx, told => exact fun σ' ρ' G' H' s p R => told .non ρ' G' H' R.ext R.gh R.st (show Rep _ _ _ _ _ from rep_non)
    | .val .brk, told => exact told.elim
    | .val .ct, told => exact told.elim
    | .val (.ret d), told =>
      have told : KC ⟨K, mg⟩ ρ G H Q E (if nobor d then some (.val d, μ') else none) := told
      split at told
      · rename_i clean
        exact fun σ' env2 ρ' G' H' v s p R hv => told v ρ' G' H' R.ext R.gh R.st (repO_of hv clean)
      · exact told.elim
end
section
variable {K : PySem.W.Frag} {mg : Str → Option Value}
theorem sp_startL {m : List (Str × Addr) → Fn} {H : Hp} {a : Addr} {ns : List Int} {qs : List ((Str × Option Str) × Str)} {ρ : List Addr} (hm : ∀ cells, ∃ μ', m cells [.scr (ns.map D.int)] (qs.map fun z => MObj.tab z.1 z.2) = some (.val (.bl true), μ')) (hl : ns.length ≤ 63)
    (hq : ρ = qs.map fun z => (He.cT K z.1).2) (nd : ρ.Nodup) (ht : ∀ p ∈ ρ, H p = some (.tbl #[])) (hS : SqL K H a (ns.map V.int)) :
    spL ⟨K, mg⟩ 1 m [.ref a] H (fun v _ => v = .bl true) (fun _ _ _ => False) := by
  refine ⟨rfl, ρ, but H ρ, [.scr (ns.map D.int)], qs.map (fun z => MObj.tab z.1 z.2), but_same, ⟨by rw [hq, List.length_map, List.length_map], nd, fun p hp => by unfold but; rw [if_pos hp], fun k o ho => ?_⟩, .cons ?_ .nil, ?_⟩
  · rw [List.getElem?_map] at ho
    cases e : qs[k]? with
    | none => rw [e] at ho; cases ho
    | some q =>
      rw [e] at ho; cases ho
      have hk : ρ[k]? = some (He.cT K q.1).2 := by rw [hq, List.getElem?_map, e]; rfl
      exact ⟨_, hk, rfl, #[], ht _ (List.mem_of_getElem? hk), True.intro, fun pos u hu => nomatch hu⟩
  · unfold Rep
    refine ⟨a, _, rfl, ?_, by rw [List.length_map]; exact Nat.le_trans hl (by decide), reps_ints ns⟩
    rcases hS with h | h
    · left
      have n : a ∉ ρ := fun z => by
        rcases h with h | ⟨o, h⟩ <;> (rw [ht a z] at h; cases h)
      have e : but H ρ a = H a := if_neg n
      unfold Rd
      rw [e]; exact h
    · right; exact h
  · intro cells
    obtain ⟨μ', hm⟩ := hm cells
    rw [hm]
    intro v ρ' G' H' _ _ _ h
    have h : Rep ⟨K, mg⟩ ρ' G' v (.bl true) := h
    unfold Rep at h; exact h
end
end Dv

/-! DwZN: f-strings; max, min of two ints. -/
namespace Dv
open PySem PySem.Spec PyProof.Rows L2
section
variable {X : Cx} {B : Bs} {W : WX} {e : Expr} {es : List Expr} {m : DEx} {ms : List DEx} {pos : Pos}
inductive DJ (X : Cx) (B : Bs) (W : WX) : List Expr → List DEx → Prop where
  | nil : DJ X B W [] []
  | cons {e : Expr} {m : DEx} {es : List Expr} {ms : List DEx} (h : DE X B W e m) (r : DJ X B W es ms) : DJ X B W (e :: es) (m :: ms)
end
end Dv

/-! DwZO: an instance of a class without an __init__. -/
namespace Dv
open PySem PySem.Spec PyProof.Rows L2
structure MkPl (K : PySem.W.Frag) (C : Addr) : Prop where
  makes : PySem.W.makesIn K C = true
  init : PySem.W.findIn K (.ref C) "__init__" = some (some (.builtin "object.__init__"))
  obj : PySem.W.subIn K (.ref C) (.type "object") = some true
  kp : PySem.W.keepIn K (.ref C) = true
section
variable {X : Cx} {pins : List (Addr × Obj)} {σ : L2.St} {H : Hp} {s : Shared} {Q : VK} {C : Addr}
end
section
variable {X : Cx} {B : Bs} {W : WX} {p pos : Pos} {c : Str}
end
end Dv

/-! DwZP: max of two ints. -/
namespace Dv
open PySem PySem.Spec PyProof.Rows L2
section
variable {X : Cx}
end
end Dv

/-! DwZQ: methods and properties by a table of classes; a staticmethod; isinstance of instances; own == and repr; making with keywords. -/
namespace Dv
open PySem PySem.Spec PyProof.Rows L2
/-! ### methods, by the class of the object -/
structure MethT (P : Program) (w : World) (K : PySem.W.Frag) (mg : Str → Option Value) (base : Heap) (m : Str) (n k : Nat) (tbl : List (Str × Fn)) : Prop where
  ok : ∀ c fn, tbl.lookup c = some fn → ∃ ps j, ps.length = n ∧ j ≤ k ∧ MethC P w K mg base c m ps j fn
section
variable {X : Cx} {B : Bs} {W : WX} {e o : Expr} {es : List Expr} {p pos apos : Pos}
/-! ### properties, by the class of the object -/
structure PropT (P : Program) (w : World) (K : PySem.W.Frag) (mg : Str → Option Value) (base : Heap) (f : Str) (k : Nat) (tbl : List (Str × Fn)) : Prop where
  ok : ∀ c fn, tbl.lookup c = some fn → ∃ j, j ≤ k ∧ PropC P w K mg base c f j fn
end
end Dv

/-! DwZR: a staticmethod; isinstance of instances; own ==, != and repr; is of bools. -/
namespace Dv
open PySem PySem.Spec PyProof.Rows L2
/-! ### a staticmethod read off its class -/
structure StatC (P : Program) (w : World) (K : PySem.W.Frag) (mg : Str → Option Value) (base : Heap) (c m : Str) (ps : List Str) (k : Nat) (fn : Fn) : Prop where
  ex : ∃ (C p g : Addr) (fd : FuncData), mg c = some (.ref C) ∧ ClX.CRead K C (.type "type") ∧ PySem.W.findCls K (.ref C) (.type "type") m = some (.get (.builtin "staticmethod.__get__") (.ref p) .none (.ref C)) ∧ (∃ rest, PySem.W.recIn K p "staticmethod" = some (.ref g :: rest)) ∧
    PySem.W.keepIn K (.ref g) = true ∧ Binds K fd ps [] ∧ FnOk P w K mg base (L2.CX P w) k g fd ps (spD ⟨K, mg⟩ ps.length fn)
section
variable {X : Cx} {B : Bs} {W : WX} {e o : Expr} {es : List Expr} {p pos apos p0 : Pos}
end
/-! ### isinstance of instances -/
structure InsI (K : PySem.W.Frag) (C : Addr) : Prop where
  cl : Cls K C
  ca : PySem.W.findIn K (.ref C) "__class__" = some (some (.builtin "object.__class__"))
  cn : PySem.W.specialIn K (.builtin "object.__class__") "__get__" = some (some (.builtin "getset_descriptor.__get__"))
  ct : PySem.W.takesIn K (.builtin "object.__class__") = some true
  cm : PySem.W.mroIn K C (.type "object") = some true
def insIB (c : Str) : PySem.W.Frag → Bool := fun K => (He.Fa.cls c).ok K && (decide (PySem.W.findIn K (.ref (He.ga K c)) "__class__" = some (some (.builtin "object.__class__"))) && (decide (PySem.W.specialIn K (.builtin "object.__class__") "__get__" = some (some (.builtin "getset_descriptor.__get__"))) && (decide (PySem.W.takesIn K (.builtin "object.__class__") = some true) && decide (PySem.W.mroIn K (He.ga K c) (.type "object") = some true))))
theorem insIB_ok {c : Str} {K : PySem.W.Frag} (h : insIB c K = true) : InsI K (He.ga K c) := by
  unfold insIB at h
  simp only [Bool.and_eq_true, decide_eq_true_eq] at h
  exact ⟨He.cls_ok h.1, h.2.1, h.2.2.1, h.2.2.2.1, h.2.2.2.2⟩
abbrev okTys : List String := ["int", "bool", "str", "tuple", "list"]
abbrev inTys : List String := ["NoneType", "bool", "int", "str", "tuple", "list"]
structure IsiO (K : PySem.W.Frag) (mg : Str → Option Value) (cs xs : List Str) (anc : Str → List Str) : Prop where
  ok : ∀ c ∈ cs, ∃ C : Addr, mg c = some (.ref C) ∧ InsI K C ∧ (∀ x ∈ xs, ∃ D : Addr, mg x = some (.ref D) ∧ PySem.W.kitOne K (.ref C) (.ref D) = some (decide (x ∈ anc c))) ∧ ∀ t ∈ okTys, PySem.W.kitOne K (.ref C) (.type t) = some false
  ty : ∀ x ∈ xs, ∃ D : Addr, mg x = some (.ref D) ∧ ∀ a ∈ inTys, PySem.W.kitOne K (.type a) (.ref D) = some false
section
variable {X : Cx} {B : Bs} {W : WX}
/-! ### is of bools -/
end
end Dv

/-! DwZS: own ==, != and repr. -/
namespace Dv
open PySem PySem.Spec PyProof.Rows L2
/-! ### != where the class has an own == alone -/
section
variable {prog : Program} {w : World} {A : Around} {E : Value → Shared → Prop} {s : Shared} {K : PySem.W.Frag} {x C L f : Addr} {h₀ : Heap} {m : Str → Option Value} {ox : Obj} {od : Option Obj} {b tb : Value}
end
/-! ### own == by a table of classes -/
structure EqC (P : Program) (w : World) (K : PySem.W.Frag) (mg : Str → Option Value) (base : Heap) (c : Str) (k : Nat) (fn : Fn) : Prop where
  ex : ∃ (C g : Addr) (fd : FuncData) (ps : List Str), mg c = some (.ref C) ∧ Meth K C "__eq__" g ∧ PySem.W.findIn K (.ref C) "__ne__" = some (some (.builtin "object.__ne__")) ∧ PySem.W.subIn K (.ref C) (.type "object") = some true ∧ ps.length = 2 ∧ Binds K fd ps [] ∧
    FnOk P w K mg base (L2.CX P w) k g fd ps (spD ⟨K, mg⟩ 2 fn)
structure EqT (P : Program) (w : World) (K : PySem.W.Frag) (mg : Str → Option Value) (base : Heap) (k : Nat) (tbl : List (Str × Fn)) (okp : List (Str × Str)) : Prop where
  ok : ∀ c fn, tbl.lookup c = some fn → ∃ j, j ≤ k ∧ EqC P w K mg base c j fn
  ty : ∀ c fn, tbl.lookup c = some fn → ∃ C : Addr, mg c = some (.ref C) ∧ ∀ t ∈ inTys, PySem.W.notFirst K C (.type t) = true
  two : ∀ q ∈ okp, ∃ C D : Addr, mg q.1 = some (.ref C) ∧ mg q.2 = some (.ref D) ∧ InsI K D ∧ PySem.W.notFirst K C (.ref D) = true
def eqCB (c : Str) : PySem.W.Frag → Bool := fun K => decide (PySem.W.findIn K (.ref (He.ga K c)) "__ne__" = some (some (.builtin "object.__ne__"))) && (decide (PySem.W.subIn K (.ref (He.ga K c)) (.type "object") = some true) && inTys.all fun t => PySem.W.notFirst K (He.ga K c) (.type t))
def eqPB (okp : List (Str × Str)) : PySem.W.Frag → Bool := fun K => okp.all fun q => insIB q.2 K && PySem.W.notFirst K (He.ga K q.1) (.ref (He.ga K q.2))
section
variable {X : Cx} {B : Bs} {W : WX}
theorem nox {pins : List (Addr × Obj)} {σ : L2.St} {H : Hp} {s s' : Shared} {e : Value} {P : Prop} (z : L2.CX X.prog X.w X.stack H s (fun _ _ _ => False) e s') : P := by
  obtain ⟨_, _, _, _, _, _, _, _, _, _, _, _, q⟩ := z; exact q.elim
/-! ### own repr -/
structure RepT (P : Program) (w : World) (K : PySem.W.Frag) (mg : Str → Option Value) (base : Heap) (k : Nat) (tbl : List (Str × Fn)) : Prop where
  ok : ∀ c fn, tbl.lookup c = some fn → ∃ j, j ≤ k ∧ ∃ (C g : Addr) (fd : FuncData) (ps : List Str), mg c = some (.ref C) ∧ Meth K C "__repr__" g ∧ ps.length = 1 ∧ Binds K fd ps [] ∧ FnOk P w K mg base (L2.CX P w) j g fd ps (spD ⟨K, mg⟩ 1 fn)
end
end Dv

/-! DwZT: the head with getters and static methods; tables of classes put together. -/
namespace Dv
open PySem PySem.Spec PyProof.Rows L2
/-! ### the head -/
abbrev AlZ : Type := AlY × He.AlD
structure SaysZ (file : Str) (fa : List He.Fa) (fn : List He.DefD) (fc : List ClD) (bs : List (PySem.W.Frag → Bool)) (tf : List He.Defn) (fz : List He5.DefA) (h : Heap) (K : PySem.W.Frag) : Prop where
  y : SaysY file fa fn fc bs tf h K
  z : (fz.all (fun d => d.ok K), fz.map fun d => He5.fnA K (d.at_ K)) = (true, fz.map He5.DefA.val)
def obsZ (file : Str) (n : Nat) (fa : List He.Fa) (fn : List He.DefD) (fc : List ClD) (bs : List (PySem.W.Frag → Bool)) (tf : List He.Defn) (fz : List He5.DefA) (g : Addr → Option Obj) : AlZ := (obsY file n fa fn fc bs tf g, fz.all (fun d => d.ok (frY n g)), fz.map fun d => He5.fnA (frY n g) (d.at_ (frY n g)))
def valZ (fn : List He.DefD) (fc : List ClD) (fz : List He5.DefA) : AlZ := (valY fn fc, true, fz.map He5.DefA.val)
section
variable {file : Str} {n : Nat} {fa : List He.Fa} {fn : List He.DefD} {fc : List ClD} {bs : List (PySem.W.Frag → Bool)} {tf : List He.Defn} {fz : List He5.DefA}
theorem saysZ_of {h : Heap} (e : obsZ file n fa fn fc bs tf fz h.get? = valZ fn fc fz) : SaysZ file fa fn fc bs tf fz h (frY n h.get?) := ⟨saysY_of (congrArg (·.1) e), congrArg (·.2) e⟩
def hookZ (file : Str) (n : Nat) (fa : List He.Fa) (fn : List He.DefD) (fc : List ClD) (bs : List (PySem.W.Frag → Bool)) (tf : List He.Defn) (fz : List He5.DefA) : PySem.W.Hook where
  α := AlZ
  obs := fun t => obsZ file n fa fn fc bs tf fz t.heap.get?
  val := fun _ => valZ fn fc fz
  says := fun _ h => ∃ K : PySem.W.Frag, K.In h ∧ SaysZ file fa fn fc bs tf fz h K
  of := fun _ _ q => ⟨_, He.frT_in, saysZ_of q⟩
  keeps := fun _ _ _ ⟨K, hK, c⟩ k => ⟨K, hK.keeps k, ⟨⟨c.y.b, c.y.hd, c.y.out, fun p hp => k _ _ (c.y.empty p hp)⟩, c.z⟩⟩
theorem obsZ_eq {g : Addr → Option Obj} {t : Shared} (h : ∀ a, g a = t.heap.get? a) : obsZ file n fa fn fc bs tf fz g = (hookZ file n fa fn fc bs tf fz).obs t := by
  cases (funext h : g = t.heap.get?); rfl
theorem SaysZ.def_ {h : Heap} {K : PySem.W.Frag} (c : SaysZ file fa fn fc bs tf fz h K) (i : Nat) {d : He5.DefA} (hd : fz[i]? = some d := by rfl) : ∃ fd, FunD K d.name d.qual d.params d.body d.scope (d.dvs K) (d.kws K) (d.at_ K) fd := by
  have ok := List.all_eq_true.mp (congrArg (fun z : He.AlD => z.1) c.z : fz.all (fun d => d.ok K) = true) d (List.mem_of_getElem? hd)
  have maps : (fz.map fun d => He5.fnA K (d.at_ K))[i]? = (fz.map He5.DefA.val)[i]? := congrArg (fun z : He.AlD => z.2[i]?) c.z
  rw [List.getElem?_map, List.getElem?_map, hd] at maps
  exact He5.DefA.funD (Option.some.inj maps) ok
end
/-! ### checks -/
abbrev methAt (c m : Str) (K : PySem.W.Frag) : Addr := He.ma K (He.ga K c) m
def samB (c d m : Str) : PySem.W.Frag → Bool := fun K => (He.Fa.meth c m).ok K && decide (methAt c m K = methAt d m K)
theorem samB_ok {c d m : Str} {K : PySem.W.Frag} (h : samB c d m K = true) : Meth K (He.ga K c) m (methAt d m K) := by
  unfold samB at h
  simp only [Bool.and_eq_true, decide_eq_true_eq] at h
  rw [← h.2]
  exact He.meth_ok h.1
/-! ### a def that stands somewhere -/
structure DefOk (P : Program) (w : World) (K : PySem.W.Frag) (mg : Str → Option Value) (base : Heap) (a : Addr) (ps : List Str) (k : Nat) (m : Fn) : Prop where
  ex : ∃ fd : FuncData, PySem.W.keepIn K (.ref a) = true ∧ Binds K fd ps [] ∧ FnOk P w K mg base (L2.CX P w) k a fd ps (spD ⟨K, mg⟩ ps.length m)
section
variable {P : Program} {w : World} {K : PySem.W.Frag} {mg : Str → Option Value} {base : Heap} {c d m f : Str} {ps : List Str} {j k n : Nat} {fn : Fn} {tbl : List (Str × Fn)} {okp : List (Str × Str)}
theorem MethT.nil : MethT P w K mg base m n k [] := ⟨fun c fn h => nomatch h⟩
theorem MethT.cons (h : MethC P w K mg base c m ps j fn) (hn : ps.length = n) (hj : j ≤ k) (r : MethT P w K mg base m n k tbl) : MethT P w K mg base m n k ((c, fn) :: tbl) := ⟨fun x g e => by
  by_cases q : x = c
  · subst q
    rw [List.lookup_cons_self] at e; cases e
    exact ⟨ps, j, hn, hj, h⟩
  · rw [List.lookup_cons, beq_false_of_ne q] at e
    exact r.ok x g e⟩
theorem PropT.nil : PropT P w K mg base f k [] := ⟨fun c fn h => nomatch h⟩
theorem PropT.cons (h : PropC P w K mg base c f j fn) (hj : j ≤ k) (r : PropT P w K mg base f k tbl) : PropT P w K mg base f k ((c, fn) :: tbl) := ⟨fun x g e => by
  by_cases q : x = c
  · subst q
    rw [List.lookup_cons_self] at e; cases e
    exact ⟨j, hj, h⟩
  · rw [List.lookup_cons, beq_false_of_ne q] at e
    exact r.ok x g e⟩
theorem RepT.nil : RepT P w K mg base k [] := ⟨fun c fn h => nomatch h⟩
theorem RepT.cons (h : MethC P w K mg base c "__repr__" ps j fn) (hn : ps.length = 1) (hj : j ≤ k) (r : RepT P w K mg base k tbl) : RepT P w K mg base k ((c, fn) :: tbl) := ⟨fun x g e => by
  by_cases q : x = c
  · subst q
    rw [List.lookup_cons_self] at e; cases e
    obtain ⟨C, a, fd, hm, _, me, hb, F⟩ := h.ex
    rw [hn] at F
    exact ⟨j, hj, C, a, fd, ps, hm, me, hn, hb, F⟩
  · rw [List.lookup_cons, beq_false_of_ne q] at e
    exact r.ok x g e⟩
theorem EqT.nil (h : eqPB okp K = true) (hm : ∀ q ∈ okp, mg q.1 = some (.ref (He.ga K q.1)) ∧ mg q.2 = some (.ref (He.ga K q.2))) : EqT P w K mg base k [] okp :=
  ⟨fun c fn h => (nomatch h), fun c fn h => (nomatch h), fun q hq => by
    have z := List.all_eq_true.mp h q hq
    rw [Bool.and_eq_true] at z
    exact ⟨_, _, (hm q hq).1, (hm q hq).2, insIB_ok z.1, z.2⟩⟩
theorem EqT.cons (h : EqC P w K mg base c j fn) (hm : mg c = some (.ref (He.ga K c))) (e : eqCB c K = true) (hj : j ≤ k) (r : EqT P w K mg base k tbl okp) : EqT P w K mg base k ((c, fn) :: tbl) okp := by
  refine ⟨fun x g q => ?_, fun x g q => ?_, r.two⟩
  · by_cases z : x = c
    · subst z
      rw [List.lookup_cons_self] at q; cases q
      exact ⟨j, hj, h⟩
    · rw [List.lookup_cons, beq_false_of_ne z] at q
      exact r.ok x g q
  · by_cases z : x = c
    · subst z
      unfold eqCB at e
      simp only [Bool.and_eq_true, decide_eq_true_eq] at e
      exact ⟨_, hm, fun t ht => List.all_eq_true.mp e.2.2 t ht⟩
    · rw [List.lookup_cons, beq_false_of_ne z] at q
      exact r.ty x g q
end
end Dv

/-! DwZU: making with keywords alone; max of two ints by its name; lambdas by their place in a text. -/
namespace Dv
open PySem PySem.Spec PyProof.Rows L2
section
variable {P : Program} {w : World} {K : PySem.W.Frag} {mg : Str → Option Value} {base : Heap} {c : Str} {a : Addr} {ps : List Str} {kb : List (Nat × List Str)} {k : Nat} {m : Fn}
/-- a def that stands somewhere, with the ways it may be called by keywords -/
structure DefK (P : Program) (w : World) (K : PySem.W.Frag) (mg : Str → Option Value) (base : Heap) (a : Addr) (ps : List Str) (kb : List (Nat × List Str)) (k : Nat) (m : Fn) : Prop where
  ex : ∃ fd : FuncData, PySem.W.keepIn K (.ref a) = true ∧ Binds K fd ps [] ∧ (∀ q ∈ kb, KBn K fd ps q.1 q.2 (fun us ws => us ++ ws) (fun us ws => us ++ ws)) ∧ FnOk P w K mg base (L2.CX P w) k a fd ps (spD ⟨K, mg⟩ ps.length m)
structure MkK (P : Program) (w : World) (K : PySem.W.Frag) (mg : Str → Option Value) (base : Heap) (c : Str) (ps : List Str) (kb : List (Nat × List Str)) (k : Nat) (m : Fn) : Prop where
  ex : ∃ (C fI : Addr) (fd : FuncData), mg c = some (.ref C) ∧ Mk K C fI ∧ Binds K fd ps [] ∧ (∀ q ∈ kb, KBn K fd ps q.1 q.2 (fun us ws => us ++ ws) (fun us ws => us ++ ws)) ∧ FnOk P w K mg base (L2.CX P w) k fI fd ps (spD ⟨K, mg⟩ ps.length m)
theorem MkK.plain (M : MkK P w K mg base c ps kb k m) : MkC P w K mg base c ps k m := by
  obtain ⟨C, fI, fd, h1, h2, h3, _, h5⟩ := M.ex
  exact ⟨C, fI, fd, h1, h2, h3, h5⟩
end
section
variable {X : Cx} {CX : CXT} {k : Nat} {C fI : Addr} {fd : FuncData} {ps ks : List Str} {sp : Sp} {E : L2.St → XK}
end
section
variable {X : Cx} {B : Bs} {W : WX} {p pos : Pos}
end
/-! ### lambdas by their place -/
def subSts : Stmt → List Stmt
  | .For _ _ b _ _ => b
  | .If _ b _ _ => b
  | _ => []
def noSt : Stmt := .Pass ⟨0, 0, 0, 0⟩
def stAt : List Stmt → List Nat → Stmt
  | ss, [i] => ss.getD i noSt
  | ss, i :: r => stAt (subSts (ss.getD i noSt)) r
  | _, [] => noSt
def listOf : Expr → List Expr
  | .List es _ => es
  | .BinOp _ _ r _ => listOf r
  | _ => []
def valOf : Stmt → Expr
  | .Assign _ e _ => e
  | _ => .Constant .none 0 ⟨0, 0, 0, 0⟩
def lamAt (st : Stmt) (i : Nat) : Expr := (listOf (valOf st)).getD i (.Constant .none 0 ⟨0, 0, 0, 0⟩)
def lamP : Expr → Arguments
  | .Lambda p _ _ _ => p
  | _ => ⟨[], [], none, [], [], none, []⟩
def lamBd : Expr → Expr
  | .Lambda _ b _ _ => b
  | e => e
def lamSc (d : Scope) : Expr → Scope
  | .Lambda _ _ s _ => s
  | _ => d
def mkLam (num : Nat) (q : Str) (dfl : Bool) (fr : List Str) (d : Scope) (e : Expr) : LamI := ⟨num, q, lamP e, lamBd e, lamSc d e, dfl, fr⟩
end Dv

/-! DwZV: defs with *rows; making by such an __init__, with and without stars in the call. -/
namespace Dv
open PySem PySem.Spec PyProof.Rows L2
abbrev spV (T : Tx) (m : Fn) : Sp := fun vs H Q E => spD T vs.length m vs H Q E
section
variable {T : Tx} {ρ ρ' : List Addr} {G G' H H' : Hp} {p : Addr} {o : HO} {Q : VK} {E : XK}
theorem Ext.alloc (ρ : List Addr) (hn : H p = Option.none) (gn : G p = Option.none) : Ext ρ G H ρ (upd G p o) (upd H p o) := by
  refine ⟨same_upd gn, .refl _, fun a u e => ⟨u, ?_, fun _ => rfl⟩, fun a u e n => ?_, fun a h n => absurd h n⟩
  · rw [upd_ne (ne_of_none e hn)]; exact e
  · by_cases q : a = p
    · rw [q]; exact hn
    · rw [upd_ne q] at e; rw [e] at n; cases n
theorem KC.alloc {r : Res D} (hn : H p = Option.none) (gn : G p = Option.none) (k : KC T ρ G H Q E r) : KC T ρ (upd G p o) (upd H p o) Q E r := by
  have x := Ext.alloc (o := o) ρ hn gn
  match r, k with
  | some (.val d, μ'), k =>
    intro v ρ' G' H' ex gh st ro
    refine k v ρ' G' H' (x.trans ex) gh st ?_
    cases d with
    | new l =>
      obtain ⟨q, vs, e1, e2, e3, e4, e5, e6, e7⟩ := ro
      refine ⟨q, vs, e1, e2, e3, e4, e5, e6, ?_⟩
      by_cases z : q = p
      · rw [z, upd_same] at e7; cases e7
      · rw [upd_ne z] at e7; exact e7
    | _ => exact ro
  | some (.exc y, μ'), k => exact fun cls dd ρ' G' H' ex gh st er => k cls dd ρ' G' H' (x.trans ex) gh st er
end
section
variable {P : Program} {w : World} {K : PySem.W.Frag} {mg : Str → Option Value} {base : Heap} {x qual : Str} {params : Arguments} {body : List Stmt} {scope : Scope} {f : Addr} {fd : FuncData}
/-- a class made by such an __init__ -/
structure MkV (P : Program) (w : World) (K : PySem.W.Frag) (mg : Str → Option Value) (base : Heap) (c : Str) (k : Nat) (m : Fn) : Prop where
  ex : ∃ C fI : Addr, mg c = some (.ref C) ∧ Mk K C fI ∧ FnR P w K mg base (L2.CX P w) k fI (spV ⟨K, mg⟩ m)
end
section
variable {X : Cx} {B : Bs} {W : WX} {k : Nat} {C fI : Addr} {sp : Sp} {E : L2.St → XK}
variable {e : Expr} {es : List Expr} {p pos : Pos}
end
end Dv

/-! DwZW: sorted(xs, key=f), f a def that gives whole numbers. -/
namespace Dv
open PySem PySem.Spec PyProof.Rows L2
/-! ### a heap without one object -/
/-! ### the keys, one by one -/
section
variable {X : Cx}
end
/-! ### at the level of deep values -/
section
variable {X : Cx} {B : Bs} {W : WX}
end
end Dv

/-! DwZX: a list that stands in the store: its making, append, isinstance, a comprehension over it. -/
namespace Dv
open PySem PySem.Spec PyProof.Rows L2
section
variable {T : Tx} {B : Bs} {ρ : List Addr} {G H : Hp} {σ : L2.St} {env : DEnv} {μ : Mu} {x : V}
/-- a new list joins the store -/
theorem RD.push (R : RD T B ρ G H σ env μ) {p : Addr} {vs : List V} {l : List D} (hp : H p = some (.lst vs)) (r : Reps T ρ G vs l) (z : szl l.length) (gn : G p = none) (pn : p ∉ ρ) (bn : B.H0 p = Option.none)
    (no : ∀ (i : Nat) (l' : List D), env[i]? = some (.own l') → σ[i]? ≠ some (some (.ref p))) (nx : ∀ q ∈ B.xo, q.1 ≠ p) : Pre ρ (ρ ++ [p]) ∧ (ρ ++ [p])[μ.length]? = some p ∧ RD T B (ρ ++ [p]) G H σ env (μ ++ [.mls l]) := by
  have pre : Pre ρ (ρ ++ [p]) := fun j a e => by rw [List.getElem?_append_left (List.getElem?_eq_some_iff.mp e).1]; exact e
  have last : (ρ ++ [p])[μ.length]? = some p := by rw [← R.st.len]; simp
  have out : ∀ {a : Addr}, a ∉ ρ → a ≠ p → a ∉ ρ ++ [p] := fun h h' m => (List.mem_append.mp m).elim h fun m => h' (List.mem_singleton.mp m)
  refine ⟨pre, last, R.gh, ⟨R.ext.gg, R.ext.pre.trans pre, R.ext.keep, R.ext.fg, fun a m n => ?_⟩, R.len, fun i s hs => ?_, R.own, ⟨by simp [R.st.len], ?_, fun a m => ?_, fun j y hy => ?_⟩, fun q hq => ?_, R.xn⟩
  · rcases List.mem_append.mp m with m | m
    · exact R.ext.fr a m n
    · rw [List.mem_singleton.mp m]; exact bn
  · have h := R.slot i s hs
    match s, h with
    | .no, _ => exact True.intro
    | .v d, ⟨v, e, q⟩ => exact ⟨v, e, q.mono (fun _ _ h => h) pre⟩
    | .own l', ⟨q, us, e1, e2, e3, e4, e5, e6, e7⟩ => exact ⟨q, us, e1, e2, e3.mono (fun _ _ h => h) pre, e4, e5, out e6 fun e => no i l' hs (by rw [← e]; exact e1), e7⟩
  · rw [List.nodup_append]
    exact ⟨R.st.nd, by simp, fun a ha b hb e => pn (by rw [List.mem_singleton.mp hb] at e; rw [← e]; exact ha)⟩
  · rcases List.mem_append.mp m with m | m
    · exact R.st.off a m
    · rw [List.mem_singleton.mp m]; exact gn
  · by_cases lt : j < μ.length
    · rw [List.getElem?_append_left lt] at hy
      obtain ⟨a, ea, rr⟩ := R.st.at_ j y hy
      exact ⟨a, pre _ _ ea, rr.pre pre⟩
    · have ej : j = μ.length := by
        have := (List.getElem?_eq_some_iff.mp hy).1
        simp at this; omega
      subst ej
      rw [List.getElem?_append_right (Nat.le_refl _)] at hy
      simp at hy
      subst hy
      exact ⟨p, last, vs, hp, r.mono (fun _ _ h => h) pre, z⟩
  · obtain ⟨e1, e2, e3, e4⟩ := R.xo q hq
    exact ⟨e1, e2, out e3 (nx q hq), e4⟩
/-- the store's list that a value is -/
def mlsAt (μ : Mu) (k : Nat) : Option (List D) := match μ[k]? with
  | some (.mls l) => some l
  | _ => none
end
section
variable {X : Cx} {B : Bs} {W : WX}
/-! ### x = a new list, x a name of the store's -/
/-! ### x.append(e) -/
/-! ### isinstance -/
/-! ### a comprehension over it -/
end
end Dv

/-! DwZY: a class's constants; bool(x) and len(x) by own defs. -/
namespace Dv
open PySem PySem.Spec PyProof.Rows L2
/-! ### constants -/
structure ConT (K : PySem.W.Frag) (mg : Str → Option Value) (f : Str) (tbl : List (Str × D)) : Prop where
  ok : ∀ c d, tbl.lookup c = some d → ∃ (C : Addr) (v : V) (u : Value), mg c = some (.ref C) ∧ Cls K C ∧ Con K C f v u ∧ ∀ ρ G, Rep ⟨K, mg⟩ ρ G v d
def conC (c f : Str) (v : He.Dv) : PySem.W.Frag → Bool := fun K => (He.Fa.cls c).ok K && He.conB K c f v
theorem ConT.nil {K : PySem.W.Frag} {mg : Str → Option Value} {f : Str} : ConT K mg f [] := ⟨fun c d h => nomatch h⟩
theorem ConT.cons {K : PySem.W.Frag} {mg : Str → Option Value} {c f : Str} {tbl : List (Str × D)} {v : He.Dv} {d : D} (hm : mg c = some (.ref (He.ga K c))) (h : conC c f v K = true) (hc : PySem.W.copiedNames.contains f = false) (hr : ∀ ρ G, Rep ⟨K, mg⟩ ρ G (v.v K) d) (r : ConT K mg f tbl) : ConT K mg f ((c, d) :: tbl) := ⟨fun x g e => by
  by_cases q : x = c
  · subst q
    rw [List.lookup_cons_self] at e; cases e
    unfold conC at h
    rw [Bool.and_eq_true] at h
    obtain ⟨u, hu⟩ := He.conB_ok h.2 hc
    exact ⟨_, _, u, hm, He.cls_ok h.1, hu, hr⟩
  · rw [List.lookup_cons, beq_false_of_ne q] at e
    exact r.ok x g e⟩
section
variable {X : Cx} {B : Bs} {W : WX} {e : Expr} {m : DEx} {pos : Pos} {f : Str} {tbl : List (Str × D)}
end
/-! ### bool(x) -/
section
variable {prog : Program} {w : World} {A : Around} {E : Value → Shared → Prop} {s : Shared}
end
section
variable {X : Cx} {B : Bs} {W : WX} {k : Nat} {tbl : List (Str × Fn)}
end
section
variable {X : Cx} {B : Bs} {W : WX}
/-- a statement that is never reached -/
def dNo : DSt := fun _ _ => none
theorem ds_no {st : Stmt} : DS X B W st dNo := ⟨⟨fun _ _ _ _ _ _ ⟨_, _, _, _, _, k⟩ => k.elim⟩⟩
end
end Dv

/-! DxA: spaces: what their helpers mean, as plain functions of rows. -/
namespace Dv
open PySem PySem.Spec PyProof.Rows L2
def bIsInteger : DSt := (dRet (dAndV (dCall fIsi (dCons (dVar 0) (dCons (dC (.ty "int")) dNil))) (dNotV (dCall fIsi (dCons (dVar 0) (dCons (dC (.ty "bool")) dNil))))))
def mIsInteger : Fn := cleanD (defD 1 bIsInteger)
def bIsWithin : DSt := (dRet (dAndV (dCall (fCall 1 mIsInteger) (dCons (dVar 0) dNil)) (dChain (fCmp fun i j => decide (i ≤ j)) (fCmp fun i j => decide (i ≤ j)) (dVar 1) (dVar 0) (dVar 2))))
def mIsWithin : Fn := cleanD (defD 3 bIsWithin)
def bWorthsCount : DSt := (dSeq (dAsg (dC (.int 1)) (tName 2))
  (dSeq (dFor (dArg fRange1 (dCons (dVar 1) dNil)) (tName 3) (dAsg (dBin fMul (dVar 2) (dVar 0)) (tName 2)))
  (dRet (dVar 2))))
def mWorthsCount : Fn := cleanD (defD 4 bWorthsCount)
/-! ### rows of a field -/
abbrev Rw : Type := List Int
def addL (p : Int) (a b : Rw) : Rw := (a.zip b).map fun q => (q.1 + q.2) % p
def mulL (p f : Int) (a : Rw) : Rw := a.map fun x => x * f % p
def at0 (l : Rw) (i : Nat) : Int := l[i]?.getD 0
def clr1 (p : Int) (row o : Rw) : Rw := addL p row (mulL p ((-(at0 row (leadN o))) % p) o)
def clearL (p : Int) (row : Rw) (red : List Rw) : Rw := red.foldl (clr1 p) row
def invZ (p a : Int) : Int := (([1, 2, 3, 4, 5, 6] : List Int).find? fun b => decide (a * b % p = 1)).getD 0
def scaleL (p : Int) (r : Rw) : Rw := if leadN r = r.length then r else mulL p (invZ p (at0 r (leadN r))) r
def sortL (l : List Rw) : List Rw := sortBy (fun a b => leD (.int (leadN a : Nat)) (.int (leadN b : Nat))) l
def redWith (p : Int) (red : List Rw) (row : Rw) : List Rw :=
  if leadN (scaleL p (clearL p row red)) = (scaleL p (clearL p row red)).length then red
  else sortL (red.map (fun o => clearL p o [scaleL p (clearL p row red)]) ++ [scaleL p (clearL p row red)])
structure OkR (p : Int) (n : Nat) (r : Rw) : Prop where
  len : r.length = n
  mem : ∀ x ∈ r, 0 ≤ x ∧ x < p
theorem okR_add {p : Int} {n : Nat} {a b : Rw} (hp : 0 < p) (ha : a.length = n) (hb : b.length = n) : OkR p n (addL p a b) := by
  refine ⟨by simp [addL, ha, hb], fun x hx => ?_⟩
  obtain ⟨q, _, rfl⟩ := List.mem_map.mp hx
  exact ⟨Int.emod_nonneg _ (by omega), Int.emod_lt_of_pos _ hp⟩
theorem okR_mul {p f : Int} {n : Nat} {a : Rw} (hp : 0 < p) (ha : a.length = n) : OkR p n (mulL p f a) := by
  refine ⟨by simp [mulL, ha], fun x hx => ?_⟩
  obtain ⟨q, _, rfl⟩ := List.mem_map.mp hx
  exact ⟨Int.emod_nonneg _ (by omega), Int.emod_lt_of_pos _ hp⟩
theorem okR_clr1 {p : Int} {n : Nat} {a o : Rw} (hp : 0 < p) (ha : a.length = n) (ho : o.length = n) : OkR p n (clr1 p a o) := okR_add hp ha (okR_mul hp ho).len
theorem okR_clear {p : Int} {n : Nat} (hp : 0 < p) : ∀ {red : List Rw} {row : Rw}, OkR p n row → (∀ o ∈ red, o.length = n) → OkR p n (clearL p row red)
  | [], _, h, _ => h
  | o :: red, row, h, hr => okR_clear hp (red := red) (okR_clr1 hp h.len (hr o List.mem_cons_self)) fun x hx => hr x (List.mem_cons_of_mem _ hx)
theorem at0_mem {p : Int} {n : Nat} {r : Rw} (h : OkR p n r) (hp : 0 < p) (i : Nat) : 0 ≤ at0 r i ∧ at0 r i < p := by
  unfold at0
  cases e : r[i]? with
  | none => exact ⟨Int.le_refl 0, hp⟩
  | some x => exact h.mem x (List.mem_of_getElem? e)
theorem at0_get {r : Rw} {i : Nat} (h : i < r.length) : r[i]? = some (at0 r i) := by
  unfold at0; simp [h]
/-! ### cleared -/
/-! ### scaled -/
theorem inverse_Z {p a : Int} (μ : Mu) (hp : Prm p) (h0 : 0 < a) (h1 : a < p) : mInverse [.int a, .int p] μ = some (.val (.int (invZ p a)), μ) ∧ 0 < invZ p a ∧ invZ p a < p ∧ a * invZ p a % p = 1 := by
  have ha : a = 1 ∨ a = 2 ∨ a = 3 ∨ a = 4 ∨ a = 5 ∨ a = 6 := by
    rcases hp.is with rfl | rfl | rfl | rfl <;> omega
  rcases hp.is with rfl | rfl | rfl | rfl <;> rcases ha with rfl | rfl | rfl | rfl | rfl | rfl
  all_goals first
    | (exfalso; omega)
    | exact ⟨by kernel_rfl, by decide, by decide, by decide⟩
theorem Prm.pos {p : Int} (h : Prm p) : 0 < p ∧ p ≤ 7 := by rcases h.is with rfl | rfl | rfl | rfl <;> decide
theorem okR_scale {p : Int} {n : Nat} {r : Rw} (hp : 0 < p) (h : OkR p n r) : OkR p n (scaleL p r) := by
  unfold scaleL
  split
  · exact h
  · exact okR_mul hp h.len
/-! ### sorted -/
theorem insBy_perm {α : Type} (le : α → α → Bool) (a : α) : ∀ l : List α, (insBy le a l).Perm (a :: l)
  | [] => .refl _
  | b :: l => by
    unfold insBy
    split
    · exact .refl _
    · exact (List.Perm.cons b (insBy_perm le a l)).trans (List.Perm.swap a b l)
theorem sortBy_perm {α : Type} (le : α → α → Bool) : ∀ l : List α, (sortBy le l).Perm l
  | [] => .refl _
  | a :: l => (insBy_perm le a _).trans (List.Perm.cons a (sortBy_perm le l))
/-! ### a row joins the reduced ones -/
end Dv

/-! DxB: rows over a field: what joining a row to reduced rows keeps. Plain lists of ints. -/
namespace Dv
open PySem PySem.Spec PyProof.Rows L2
/-! ### entries -/
theorem at0_nil (i : Nat) : at0 [] i = 0 := rfl
theorem at0_add {p : Int} : ∀ {a b : Rw} (i : Nat), a.length = b.length → at0 (addL p a b) i = (at0 a i + at0 b i) % p
  | [], [], i, _ => by simp [addL, at0_nil]
  | x :: a, y :: b, 0, _ => rfl
  | x :: a, y :: b, i + 1, h => at0_add (a := a) (b := b) i (by simpa using h)
  | [], _ :: _, _, h => by simp at h
  | _ :: _, [], _, h => by simp at h
theorem at0_mul {p f : Int} : ∀ {a : Rw} (i : Nat), at0 (mulL p f a) i = at0 a i * f % p
  | [], i => by simp [mulL, at0_nil]
  | x :: a, 0 => rfl
  | x :: a, i + 1 => at0_mul (a := a) i
theorem at0_clr1 {p : Int} {a o : Rw} (h : a.length = o.length) (i : Nat) : at0 (clr1 p a o) i = (at0 a i + at0 o i * ((-(at0 a (leadN o))) % p) % p) % p := by
  unfold clr1
  rw [at0_add i (by simpa [mulL] using h), at0_mul]
theorem mod_id {p x : Int} (h : 0 ≤ x ∧ x < p) : x % p = x := Int.emod_eq_of_lt h.1 h.2
theorem clr1_keep {p : Int} {n : Nat} {a o : Rw} {i : Nat} (hp : 0 < p) (ha : OkR p n a) (ho : o.length = n) (h : at0 o i = 0) : at0 (clr1 p a o) i = at0 a i := by
  rw [at0_clr1 (by rw [ha.len, ho]), h]
  simp [mod_id (at0_mem ha hp i)]
theorem clr1_zero {p : Int} {n : Nat} {a o : Rw} (hp : 0 < p) (ha : OkR p n a) (ho : o.length = n) (h : at0 o (leadN o) = 1) : at0 (clr1 p a o) (leadN o) = 0 := by
  rw [at0_clr1 (by rw [ha.len, ho]), h]
  simp [Int.add_right_neg]
theorem clear_keep {p : Int} {n : Nat} {i : Nat} (hp : 0 < p) : ∀ {red : List Rw} {row : Rw}, OkR p n row → (∀ o ∈ red, o.length = n ∧ at0 o i = 0) → at0 (clearL p row red) i = at0 row i
  | [], _, _, _ => rfl
  | o :: red, row, h, hr => by
    have e := hr o List.mem_cons_self
    have k : OkR p n (clr1 p row o) := okR_clr1 hp h.len e.1
    show at0 (clearL p (clr1 p row o) red) i = _
    rw [clear_keep hp k fun x hx => hr x (List.mem_cons_of_mem _ hx), clr1_keep hp h e.1 e.2]
/-! ### the leading place -/
theorem lead_before : ∀ {r : Rw} {j : Nat}, j < leadN r → at0 r j = 0
  | [], j, h => by simp [leadN] at h
  | x :: r, j, h => by
    rw [leadN_cons] at h
    split at h
    · rename_i h0
      cases j with
      | zero => exact h0
      | succ j => exact lead_before (r := r) (by omega)
    · omega
theorem lead_at {r : Rw} (h : leadN r < r.length) : at0 r (leadN r) ≠ 0 := by
  obtain ⟨x, e, n⟩ := leadN_ne h
  unfold at0
  rw [e]
  exact n
theorem lead_is : ∀ {r : Rw} {l : Nat}, (∀ j, j < l → at0 r j = 0) → at0 r l ≠ 0 → leadN r = l
  | [], l, _, h => absurd (at0_nil l) h
  | x :: r, 0, _, h => by rw [leadN_cons, if_neg (show ¬ x = 0 from h)]
  | x :: r, l + 1, b, h => by
    rw [leadN_cons, if_pos (show x = 0 from b 0 (by omega)), lead_is (r := r) (l := l) (fun j hj => b (j + 1) (by omega)) h]
/-! ### reduced rows -/
def ApartR (o o' : Rw) : Prop := at0 o' (leadN o) = 0 ∧ at0 o (leadN o') = 0
theorem ApartR.symm {o o' : Rw} (h : ApartR o o') : ApartR o' o := ⟨h.2, h.1⟩
structure RedS (p : Int) (n : Nat) (red : List Rw) : Prop where
  all : ∀ o ∈ red, OkR p n o ∧ leadN o < n ∧ at0 o (leadN o) = 1
  pw : red.Pairwise ApartR
theorem RedS.nil {p : Int} {n : Nat} : RedS p n [] := ⟨fun o h => absurd h List.not_mem_nil, .nil⟩
theorem RedS.perm {p : Int} {n : Nat} {a b : List Rw} (h : RedS p n a) (q : b.Perm a) : RedS p n b :=
  ⟨fun o ho => h.all o (q.mem_iff.mp ho), (List.Perm.pairwise_iff (fun {x y} h => ApartR.symm h) q).mpr h.pw⟩
theorem clear_zero {p : Int} {n : Nat} (hp : 0 < p) : ∀ {red : List Rw} {row : Rw}, RedS p n red → OkR p n row → ∀ o ∈ red, at0 (clearL p row red) (leadN o) = 0
  | [], _, _, _, o, h => absurd h List.not_mem_nil
  | o :: red, row, hr, hk, x, hx => by
    obtain ⟨h1, h2, h3⟩ := hr.all o List.mem_cons_self
    have k : OkR p n (clr1 p row o) := okR_clr1 hp hk.len h1.len
    have pw := List.pairwise_cons.mp hr.pw
    show at0 (clearL p (clr1 p row o) red) (leadN x) = 0
    rcases List.mem_cons.mp hx with rfl | hx
    · rw [clear_keep hp k fun y hy => ⟨(hr.all y (List.mem_cons_of_mem _ hy)).1.len, (pw.1 y hy).1⟩, clr1_zero hp hk h1.len h3]
    · exact clear_zero hp ⟨fun y hy => hr.all y (List.mem_cons_of_mem _ hy), pw.2⟩ k x hx
/-- a scaled row that isn't zero -/
theorem scale_lead {p : Int} {n : Nat} {r : Rw} (hp : Prm p) (h : OkR p n r) (hl : leadN (scaleL p r) < n) : leadN (scaleL p r) = leadN r ∧ at0 (scaleL p r) (leadN r) = 1 ∧ leadN r < n ∧ ∃ b, scaleL p r = mulL p b r ∧ at0 r (leadN r) * b % p = 1 := by
  unfold scaleL at hl ⊢
  by_cases e : leadN r = r.length
  · rw [if_pos e] at hl
    have := h.len
    omega
  · have lt : leadN r < r.length := by have := leadN_le r; omega
    have hx := lead_at lt
    have hm := at0_mem h hp.pos.1 (leadN r)
    obtain ⟨_, _, _, i4⟩ := inverse_Z [] hp (show 0 < at0 r (leadN r) by omega) hm.2
    rw [if_neg e]
    have one : at0 (mulL p (invZ p (at0 r (leadN r))) r) (leadN r) = 1 := by rw [at0_mul, i4]
    refine ⟨lead_is (fun j hj => ?_) (by rw [one]; decide), one, by have := h.len; omega, _, rfl, i4⟩
    rw [at0_mul, lead_before hj]
    simp
/-- the rest, cleared by a new row -/
theorem rest_facts {p : Int} {n : Nat} {o late : Rw} (hp : 0 < p) (ho : OkR p n o) (hl : leadN o < n) (h1 : at0 o (leadN o) = 1) (hk : OkR p n late) (hm : leadN late < n) (hm1 : at0 late (leadN late) = 1) (hz : at0 late (leadN o) = 0) :
    leadN (clr1 p o late) = leadN o ∧ at0 (clr1 p o late) (leadN late) = 0 ∧ ∀ i, at0 late i = 0 → at0 (clr1 p o late) i = at0 o i := by
  have keep : ∀ i, at0 late i = 0 → at0 (clr1 p o late) i = at0 o i := fun i h => clr1_keep hp ho hk.len h
  refine ⟨lead_is (fun j hj => ?_) (by rw [keep _ hz, h1]; decide), clr1_zero hp ho hk.len hm1, keep⟩
  by_cases lt : j < leadN late
  · rw [keep j (lead_before lt), lead_before hj]
  · have e : at0 o (leadN late) = 0 := lead_before (by omega)
    rw [at0_clr1 (by rw [ho.len, hk.len]), e, lead_before hj]
    simp
theorem redWith_cases (p : Int) (red : List Rw) (row : Rw) : ∃ late, late = scaleL p (clearL p row red) ∧ ((leadN late = late.length ∧ redWith p red row = red) ∨ (leadN late ≠ late.length ∧ (redWith p red row).Perm (red.map (fun o => clr1 p o late) ++ [late]))) := by
  refine ⟨_, rfl, ?_⟩
  unfold redWith
  by_cases h : leadN (scaleL p (clearL p row red)) = (scaleL p (clearL p row red)).length
  · exact .inl ⟨h, by rw [if_pos h]⟩
  · refine .inr ⟨h, ?_⟩
    rw [if_neg h]
    exact sortBy_perm _ _
theorem redWith_len (p : Int) (red : List Rw) (row : Rw) : (redWith p red row).length ≤ red.length + 1 := by
  obtain ⟨late, _, ⟨_, e⟩ | ⟨_, e⟩⟩ := redWith_cases p red row
  · rw [e]; omega
  · rw [e.length_eq]; simp
theorem redS_with {p : Int} {n : Nat} {red : List Rw} {row : Rw} (hp : Prm p) (hr : RedS p n red) (hk : OkR p n row) : RedS p n (redWith p red row) := by
  have hp0 := hp.pos.1
  have kc : OkR p n (clearL p row red) := okR_clear hp0 hk fun o h => (hr.all o h).1.len
  obtain ⟨late, el, ⟨_, e⟩ | ⟨hne, e⟩⟩ := redWith_cases p red row
  · rw [e]; exact hr
  · have kl : OkR p n late := by rw [el]; exact okR_scale hp0 kc
    have lt : leadN late < n := by have := leadN_le late; have := kl.len; omega
    obtain ⟨s1, s2, s3, b, s4, s5⟩ := scale_lead hp kc (by rw [← el]; exact lt)
    rw [← el] at s1 s2 s4
    have one : at0 late (leadN late) = 1 := by rw [s1]; exact s2
    have zero : ∀ o ∈ red, at0 late (leadN o) = 0 := fun o ho => by
      rw [s4, at0_mul, clear_zero hp0 hr hk o ho]
      simp
    have facts : ∀ o ∈ red, _ := fun o ho => rest_facts (p := p) (n := n) (o := o) (late := late) hp0 (hr.all o ho).1 (hr.all o ho).2.1 (hr.all o ho).2.2 kl lt one (zero o ho)
    refine RedS.perm ⟨fun x hx => ?_, ?_⟩ e
    · rcases List.mem_append.mp hx with hx | hx
      · obtain ⟨o, ho, rfl⟩ := List.mem_map.mp hx
        obtain ⟨f1, f2, f3⟩ := facts o ho
        exact ⟨okR_clr1 hp0 (hr.all o ho).1.len kl.len, by rw [f1]; exact (hr.all o ho).2.1, by rw [f1, f3 _ (zero o ho)]; exact (hr.all o ho).2.2⟩
      · rw [List.mem_singleton.mp hx]
        exact ⟨kl, lt, one⟩
    · rw [List.pairwise_append]
      refine ⟨?_, by simp, fun x hx y hy => ?_⟩
      · rw [List.pairwise_map]
        refine hr.pw.imp_of_mem fun {a b} ha hb h => ?_
        obtain ⟨f1, f2, f3⟩ := facts a ha
        obtain ⟨g1, g2, g3⟩ := facts b hb
        exact ⟨by rw [f1, g3 _ (zero a ha)]; exact h.1, by rw [g1, f3 _ (zero b hb)]; exact h.2⟩
      · obtain ⟨o, ho, rfl⟩ := List.mem_map.mp hx
        obtain ⟨f1, f2, f3⟩ := facts o ho
        rw [List.mem_singleton.mp hy]
        exact ⟨by rw [f1]; exact zero o ho, f2⟩
/-! ### what vanishes on rows -/
/-- a linear form, up to multiples of p -/
structure LinF (p : Int) (n : Nat) (φ : Rw → Int) : Prop where
  add : ∀ a b : Rw, a.length = n → b.length = n → p ∣ φ (addL p a b) - (φ a + φ b)
  mul : ∀ (f : Int) (a : Rw), a.length = n → p ∣ φ (mulL p f a) - φ a * f
  zero : ∀ a : Rw, (∀ x ∈ a, x = 0) → p ∣ φ a
section
variable {p : Int} {n : Nat} {φ : Rw → Int}
theorem dvd_iff_of_sub {a b : Int} (h : p ∣ a - b) : p ∣ a ↔ p ∣ b := by
  constructor
  · intro q
    have := Int.dvd_sub q h
    rwa [show a - (a - b) = b by omega] at this
  · intro q
    have := Int.dvd_add h q
    rwa [show a - b + b = a by omega] at this
theorem LinF.clr1 (L : LinF p n φ) {a o : Rw} (ha : a.length = n) (ho : o.length = n) (v : p ∣ φ o) : p ∣ φ (Dv.clr1 p a o) ↔ p ∣ φ a := by
  have h := L.add a (mulL p ((-(at0 a (leadN o))) % p) o) ha (by simp [mulL, ho])
  have hm := (dvd_iff_of_sub (L.mul ((-(at0 a (leadN o))) % p) o ho)).mpr (Int.dvd_mul_of_dvd_left v)
  refine (dvd_iff_of_sub h).trans ⟨fun q => ?_, fun q => Int.dvd_add q hm⟩
  have := Int.dvd_sub q hm
  rwa [Int.add_sub_cancel] at this
theorem LinF.clear (L : LinF p n φ) (hp : 0 < p) : ∀ {red : List Rw} {row : Rw}, OkR p n row → (∀ o ∈ red, o.length = n ∧ p ∣ φ o) → (p ∣ φ (clearL p row red) ↔ p ∣ φ row)
  | [], _, _, _ => Iff.rfl
  | o :: red, row, h, hr => by
    have e := hr o List.mem_cons_self
    have k : OkR p n (Dv.clr1 p row o) := okR_clr1 hp h.len e.1
    exact (LinF.clear L hp k fun x hx => hr x (List.mem_cons_of_mem _ hx)).trans (L.clr1 h.len e.1 e.2)
theorem LinF.scale (L : LinF p n φ) {r : Rw} {b : Int} (h : r.length = n) (hb : at0 r (leadN r) * b % p = 1) : p ∣ φ (mulL p b r) ↔ p ∣ φ r := by
  refine (dvd_iff_of_sub (L.mul b r h)).trans ⟨fun q => ?_, fun q => Int.dvd_mul_of_dvd_left q⟩
  have h1 : p ∣ φ r * (at0 r (leadN r) * b) := by
    have := Int.dvd_mul_of_dvd_left (c := at0 r (leadN r)) q
    rwa [Int.mul_assoc, Int.mul_comm b] at this
  have h2 : p ∣ at0 r (leadN r) * b - 1 := by
    have := Int.dvd_sub_self_of_emod_eq hb
    have := Int.dvd_neg.mpr this
    rwa [Int.neg_sub] at this
  have h3 : p ∣ φ r * (at0 r (leadN r) * b - 1) := Int.dvd_mul_of_dvd_right h2
  have := Int.dvd_sub h1 h3
  rwa [← Int.mul_sub, show at0 r (leadN r) * b - (at0 r (leadN r) * b - 1) = 1 by omega, Int.mul_one] at this
theorem LinF.with (L : LinF p n φ) (hp : Prm p) {red : List Rw} {row : Rw} (hr : RedS p n red) (hk : OkR p n row) : (∀ o ∈ redWith p red row, p ∣ φ o) ↔ (∀ o ∈ red, p ∣ φ o) ∧ p ∣ φ row := by
  have hp0 := hp.pos.1
  have kc : OkR p n (clearL p row red) := okR_clear hp0 hk fun o h => (hr.all o h).1.len
  have cl : (∀ o ∈ red, p ∣ φ o) → (p ∣ φ (clearL p row red) ↔ p ∣ φ row) := fun v => L.clear hp0 hk fun o h => ⟨(hr.all o h).1.len, v o h⟩
  obtain ⟨late, el, ⟨hz, e⟩ | ⟨hne, e⟩⟩ := redWith_cases p red row
  · rw [e]
    refine ⟨fun v => ⟨v, (cl v).mp (L.zero _ fun x hx => ?_)⟩, fun v => v.1⟩
    have kl : OkR p n late := by rw [el]; exact okR_scale hp0 kc
    unfold scaleL at el
    split at el
    · rename_i h
      exact leadN_zero h x hx
    · rename_i h
      -- a row that is not zero, scaled, is not zero
      exfalso
      have lt : leadN (clearL p row red) < (clearL p row red).length := by have := leadN_le (clearL p row red); omega
      have hm := at0_mem kc hp0 (leadN (clearL p row red))
      have hx := lead_at lt
      obtain ⟨_, _, _, i4⟩ := inverse_Z [] hp (show 0 < at0 (clearL p row red) (leadN (clearL p row red)) by omega) hm.2
      have one : at0 late (leadN (clearL p row red)) = 1 := by rw [el, at0_mul, i4]
      have hl : leadN (clearL p row red) < late.length := by rw [kl.len, ← kc.len]; exact lt
      have z := leadN_zero hz _ (List.mem_of_getElem? (at0_get hl))
      rw [one] at z
      cases z
  · have kl : OkR p n late := by rw [el]; exact okR_scale hp0 kc
    have lt : leadN late < n := by have := leadN_le late; have := kl.len; omega
    obtain ⟨s1, s2, s3, b, s4, s5⟩ := scale_lead hp kc (by rw [← el]; exact lt)
    have sc : p ∣ φ late ↔ p ∣ φ (clearL p row red) := by rw [el, s4]; exact L.scale kc.len s5
    have all : (∀ o ∈ redWith p red row, p ∣ φ o) ↔ (∀ o ∈ red.map (fun o => Dv.clr1 p o late), p ∣ φ o) ∧ p ∣ φ late := by
      constructor
      · intro v
        exact ⟨fun o ho => v o (e.mem_iff.mpr (List.mem_append_left _ ho)), v late (e.mem_iff.mpr (List.mem_append_right _ List.mem_cons_self))⟩
      · intro v o ho
        rcases List.mem_append.mp (e.mem_iff.mp ho) with h | h
        · exact v.1 o h
        · rw [List.mem_singleton.mp h]; exact v.2
    rw [all]
    constructor
    · intro ⟨v, w⟩
      have vr : ∀ o ∈ red, p ∣ φ o := fun o ho => (L.clr1 (hr.all o ho).1.len kl.len w).mp (v _ (List.mem_map.mpr ⟨o, ho, rfl⟩))
      exact ⟨vr, (cl vr).mp (sc.mp w)⟩
    · intro ⟨v, w⟩
      have wl : p ∣ φ late := sc.mpr ((cl v).mpr w)
      refine ⟨fun x hx => ?_, wl⟩
      obtain ⟨o, ho, rfl⟩ := List.mem_map.mp hx
      exact (L.clr1 (hr.all o ho).1.len kl.len wl).mpr (v o ho)
end
end Dv

/-! DxC: spaces: their making, a row more. -/
namespace Dv
open PySem PySem.Spec PyProof.Rows L2
/-! ### is a row -/
/-! ### the fields that are drawn -/
def fldL : List (Int × Nat) := [(2, 1), (2, 2), (2, 3), (2, 4), (2, 5), (2, 6), (3, 1), (3, 2), (3, 3), (5, 1), (5, 2), (7, 1), (7, 2)]
theorem fld_cases {p : Int} {n : Nat} (h : (p, n) ∈ fldL) : Prm p ∧ 1 ≤ n ∧ n ≤ 6 := by
  unfold fldL at h
  simp only [List.mem_cons, List.not_mem_nil, or_false, Prod.mk.injEq] at h
  rcases h with ⟨rfl, rfl⟩ | ⟨rfl, rfl⟩ | ⟨rfl, rfl⟩ | ⟨rfl, rfl⟩ | ⟨rfl, rfl⟩ | ⟨rfl, rfl⟩ | ⟨rfl, rfl⟩ | ⟨rfl, rfl⟩ | ⟨rfl, rfl⟩ | ⟨rfl, rfl⟩ | ⟨rfl, rfl⟩ | ⟨rfl, rfl⟩ | ⟨rfl, rfl⟩
  all_goals exact ⟨⟨by decide⟩, by decide, by decide⟩
/-! ### the making -/
def spanRed (p : Int) (red rows : List Rw) : List Rw := rows.foldl (redWith p) red
theorem redS_span {p : Int} {n : Nat} (hp : Prm p) : ∀ {rows red : List Rw}, RedS p n red → (∀ r ∈ rows, OkR p n r) → RedS p n (spanRed p red rows) ∧ (spanRed p red rows).length ≤ red.length + rows.length
  | [], red, h, _ => ⟨h, Nat.le_refl _⟩
  | r :: rows, red, h, hr => by
    obtain ⟨a, b⟩ := redS_span hp (rows := rows) (redS_with hp h (hr r List.mem_cons_self)) fun x hx => hr x (List.mem_cons_of_mem _ hx)
    have := redWith_len p red r
    exact ⟨a, Nat.le_trans b (by simp; omega)⟩
/-! ### Space(p, n, *rows) -/
end Dv

/-! DxD: drawing at the store's head, values of rows as linear forms, comprehensions over store lists, equal lists. -/
namespace Dv
open PySem PySem.Spec PyProof.Rows L2
/-! ### values of rows -/
/-! ### equal lists -/
/-! ### a comprehension over a store's list that stays -/
end Dv

/-! DyA: more of lists that stand in the store: len, list(), slices, ==; append to a list just made; an own __len__. -/
namespace Dv
open PySem PySem.Spec PyProof.Rows L2
section
variable {X : Cx} {B : Bs} {W : WX}
/-! ### len, list -/
/-! ### != with what is data -/
/-- a value as data: a store's list by what it holds -/
def seen (μ : Mu) : D → D
  | .obj k => (match mlsAt μ k with
    | some l => .lst l
    | none => .obj k)
  | d => d
/-! ### slices -/
/-! ### a written value joins a list just made -/
end
end Dv

/-! DyB: an own __len__; a list made by a comprehension joins the store; for over zip(a store's list, a frozen one). -/
namespace Dv
open PySem PySem.Spec PyProof.Rows L2
section
variable {X : Cx} {B : Bs} {W : WX} {k : Nat} {tbl : List (Str × Fn)}
/-! ### len(x), x an instance -/
/-! ### name = [..], the name of a store's list -/
end
end Dv

/-! DyC: for over zip(x, e), x a list that stands in the store (read anew at each turn), e a frozen one. -/
namespace Dv
open PySem PySem.Spec PyProof.Rows L2
section
variable {T : Tx} {B : Bs} {W : WX}
end
section
variable {X : Cx} {B : Bs} {W : WX}
end
end Dv

/-! DyD: what the laws over spaces have in common: draws by any drawer, copies, odd values, the law's space. -/
namespace Dv
open PySem PySem.Spec PyProof.Rows L2
def bLSizes : DSt := (dSeq (dAsg (dLst (dCons (dTup (dCons (dC (.int 2)) (dCons (dC (.int 1)) dNil))) (dCons (dTup (dCons (dC (.int 2)) (dCons (dC (.int 2)) dNil))) (dCons (dTup (dCons (dC (.int 2)) (dCons (dC (.int 3)) dNil))) (dCons (dTup (dCons (dC (.int 2)) (dCons (dC (.int 3)) dNil))) (dCons (dTup (dCons (dC (.int 2)) (dCons (dC (.int 4)) dNil))) (dCons (dTup (dCons (dC (.int 2)) (dCons (dC (.int 6)) dNil))) (dCons (dTup (dCons (dC (.int 3)) (dCons (dC (.int 1)) dNil))) (dCons (dTup (dCons (dC (.int 3)) (dCons (dC (.int 2)) dNil))) (dCons (dTup (dCons (dC (.int 3)) (dCons (dC (.int 3)) dNil))) (dCons (dTup (dCons (dC (.int 5)) (dCons (dC (.int 2)) dNil))) (dCons (dTup (dCons (dC (.int 7)) (dCons (dC (.int 1)) dNil))) (dCons (dTup (dCons (dC (.int 7)) (dCons (dC (.int 2)) dNil))) dNil))))))))))))) (tName 1))
  (dRet (dCall (fCall 2 mOf) (dCons (dVar 0) (dCons (dVar 1) dNil)))))
def mLSizes : Fn := cleanD (defD 2 bLSizes)
/-! ### a drawer in its store -/
structure Drw (j : Nat) (F : Src → Mu) : Prop where
  at_ : ∀ s s', (F s).set j (.src s') = F s'
  lt : ∀ s, j < (F s).length
theorem ofF {j : Nat} {F : Src → Mu} (Dr : Drw j F) (s : Src) (l : List D) (hs : OkS s) (hl : 0 < l.length) (hz : l.length ≤ 1000) (hn : ∀ d ∈ l, nobor d = true) (hn2 : ∀ d ∈ l, unbor d = d) : ∃ d s', d ∈ l ∧ mOf [.obj j, .lst l] (F s) = some (.val d, F s') ∧ OkS s' := by
  obtain ⟨d, s', h, e, o⟩ := of_okJ j (F s) (Dr.lt s) s l hs hl hz hn hn2
  rw [Dr.at_, Dr.at_] at e
  exact ⟨d, s', h, e, o⟩
/-! ### copied -/
/-! ### what is drawn -/
def szL : List D := [.tup [.int 2, .int 1], .tup [.int 2, .int 2], .tup [.int 2, .int 3], .tup [.int 2, .int 3], .tup [.int 2, .int 4], .tup [.int 2, .int 6], .tup [.int 3, .int 1], .tup [.int 3, .int 2], .tup [.int 3, .int 3], .tup [.int 5, .int 2], .tup [.int 7, .int 1], .tup [.int 7, .int 2]]
theorem sizes0 {j : Nat} {F : Src → Mu} (Dr : Drw j F) (s : Src) (hs : OkS s) : ∃ (p : Int) (n : Nat) (s' : Src), mLSizes [.obj j] (F s) = some (.val (.tup [.int p, .int n]), F s') ∧ (p, n) ∈ fldL ∧ OkS s' := by
  obtain ⟨d, s', hd, e, ho⟩ := ofF Dr s szL hs (by decide) (by decide)
    (fun d hd => by unfold szL at hd; simp only [List.mem_cons, List.not_mem_nil, or_false] at hd; rcases hd with rfl | rfl | rfl | rfl | rfl | rfl | rfl | rfl | rfl | rfl | rfl | rfl <;> rfl)
    (fun d hd => by unfold szL at hd; simp only [List.mem_cons, List.not_mem_nil, or_false] at hd; rcases hd with rfl | rfl | rfl | rfl | rfl | rfl | rfl | rfl | rfl | rfl | rfl | rfl <;> rfl)
  have h : ∃ (p : Int) (n : Nat), d = .tup [.int p, .int n] ∧ (p, n) ∈ fldL := by
    unfold szL at hd
    simp only [List.mem_cons, List.not_mem_nil, or_false] at hd
    rcases hd with rfl | rfl | rfl | rfl | rfl | rfl | rfl | rfl | rfl | rfl | rfl | rfl
    · exact ⟨2, 1, rfl, by decide⟩
    · exact ⟨2, 2, rfl, by decide⟩
    · exact ⟨2, 3, rfl, by decide⟩
    · exact ⟨2, 3, rfl, by decide⟩
    · exact ⟨2, 4, rfl, by decide⟩
    · exact ⟨2, 6, rfl, by decide⟩
    · exact ⟨3, 1, rfl, by decide⟩
    · exact ⟨3, 2, rfl, by decide⟩
    · exact ⟨3, 3, rfl, by decide⟩
    · exact ⟨5, 2, rfl, by decide⟩
    · exact ⟨7, 1, rfl, by decide⟩
    · exact ⟨7, 2, rfl, by decide⟩
  obtain ⟨p, n, rfl, h1⟩ := h
  refine ⟨p, n, s', def_ret (env := [.v (.obj j), .v (.lst szL)]) ?_ rfl, h1, ho⟩
  refine seq_nx (env' := [.v (.obj j), .v (.lst szL)]) (μ' := F s) rfl ?_
  simp (decide := true) only [dSeq, dIfS, dRet, dSkip, dAsg, tName, unbor, bindS, dTest, fTest, dBin, dC, dVar, dNotT, dAndT, dOrT, dAndV, dOrV, dIf, bindR, Dv.ret, hold_new, hold_int, hold_bl, hold_tup, hold_lst, hold_obj, hold_str, hold_non, hold_ty, hold_bor, dCall, dCons, dNil, dIter, fIter, dArg, nobor_new, nobor_int, nobor_bl, nobor_tup, nobor_lst, nobor_obj, nobor_str, nobor_non, nobor_ty, Bool.and_self, and_self, if_true, if_false, Bool.false_eq_true, Bool.not_true, Bool.not_false, List.all_cons, List.all_nil, List.length_cons, List.length_nil, Nat.zero_add, Nat.reduceAdd, List.getElem?_cons_zero, List.getElem?_cons_succ, List.set_cons_zero, List.set_cons_succ, fCall, decide_true, decide_false, e]
/-! ### the space -/
/-! ### odd values -/
/-! ### a space asked -/
section
variable {p : Int} {n : Nat} {red : List Rw} {env : DEnv} {μ : Mu}
end
end Dv

/-! DyE: steps of meanings, one lemma each (nothing is unfolded); the drawer made in any store. -/
namespace Dv
open PySem PySem.Spec PyProof.Rows L2
section
variable {env : DEnv} {μ μ1 μ2 : Mu} {d d' : D} {ds : List D}
theorem sCons {m : DEx} {na : DEnv → Mu → Res (List D)} (h : m env μ = some (.val d, μ1)) (g : na env μ1 = some (.val ds, μ2)) : dCons m na env μ = some (.val (hold d :: ds), μ2) := by
  show bindR (m env μ) _ = _
  rw [h]
  show bindR (na env μ1) _ = _
  rw [g]
theorem sNil : dNil env μ = some (.val [], μ) := rfl
theorem sCall {f : List D → Mu → Res D} {na : DEnv → Mu → Res (List D)} (h : na env μ = some (.val ds, μ1)) : dCall f na env μ = f ds μ1 := by
  show bindR (na env μ) _ = _
  rw [h]
end
/-- the drawer joins a store -/
def bSrc (k c : Int) : DSt := (dRet (dLst (dCons (dCall fList (dCons (dSl (dVar 0) dNoPart (dPart (dC (.int k)))) dNil)) (dCons (dC (.int 0)) (dCons (dC (.int 0)) (dCons (dC (.int c)) (dCons (dC (.int 0)) dNil)))))))
theorem source_at (k c : Int) (ns : List Int) (hl : ns.length ≤ 63) (μ : Mu) : ∃ s, adopt (cleanD (defD 1 (bSrc k c))) [.scr (intsD ns)] μ = some (.val (.obj μ.length), μ ++ [.src s]) ∧ (0 ≤ c → c < 2147483587 → OkS s) := by
  have hz := cut_len ns none (some k)
  refine ⟨⟨Dv.cutD ns none (some k), 0, 0, c, 0⟩, ?_, fun c0 c1 => ⟨Nat.le_trans hz hl, Int.le_refl 0, c0, c1⟩⟩
  have e : cleanD (defD 1 (bSrc k c)) [.scr (intsD ns)] μ = some (.val (.new [.lst (intsD (Dv.cutD ns none (some k))), .int 0, .int 0, .int c, .int 0]), μ) := by
    refine def_ret (env := [.v (.scr (intsD ns))]) ?_ rfl
    have h : hold (.scr (intsD ns)) = .scr (intsD ns) := rfl
    show dRet _ [.v (.scr (intsD ns))] μ = _
    simp (decide := true) only [dSeq, dIfS, dRet, dSkip, dAsg, tName, unbor, bindS, dTest, fTest, dBin, dC, dVar, dNotT, dAndT, dOrT, dAndV, dOrV, dIf, bindR, Dv.ret, hold_new, hold_int, hold_bl, hold_tup, hold_lst, hold_obj, hold_str, hold_non, hold_ty, hold_bor, dCall, dCons, dNil, dIter, fIter, dArg, nobor_new, nobor_int, nobor_bl, nobor_tup, nobor_lst, nobor_obj, nobor_str, nobor_non, nobor_ty, Bool.and_self, and_self, if_true, if_false, Bool.false_eq_true, Bool.not_true, Bool.not_false, List.all_cons, List.all_nil, List.length_cons, List.length_nil, Nat.zero_add, Nat.reduceAdd, List.getElem?_cons_zero, List.getElem?_cons_succ, List.set_cons_zero, List.set_cons_succ, fCall, decide_true, decide_false, dSl, dNoPart, dPart, fPart, fSl, h, fList, cut_intsD, dLst, fLst]
  unfold adopt
  rw [e]
  simp only [asInts_intsD]
end Dv

/-! DyF: the rows that some rows span, by what vanishes on them; reduced rows are unique; sums of multiples; worths that part. -/
namespace Dv
open PySem PySem.Spec PyProof.Rows L2
/-! ### sums modulo p -/
/-! ### linear forms -/
section
variable {p : Int} {n : Nat} {φ ψ : Rw → Int}
theorem LinF.times (L : LinF p n φ) (c : Int) : LinF p n fun r => φ r * c where
  add := fun a b ha hb => by
    have := Int.dvd_mul_of_dvd_left (c := c) (L.add a b ha hb)
    rwa [Int.sub_mul, Int.add_mul] at this
  mul := fun f a ha => by
    have := Int.dvd_mul_of_dvd_left (c := c) (L.mul f a ha)
    rwa [Int.sub_mul, Int.mul_assoc (φ a), Int.mul_comm f c, ← Int.mul_assoc] at this
  zero := fun a h => Int.dvd_mul_of_dvd_left (L.zero a h)
/-! ### totals -/
/-! ### spans -/
/-! ### reduced rows are unique -/
abbrev Asc (red : List Rw) : Prop := red.Pairwise fun a b => leadN a < leadN b
end
end Dv

/-! DyG: the reduced rows of rows ascend; all sums; all rows; worths that part. -/
namespace Dv
open PySem PySem.Spec PyProof.Rows L2
/-! ### sorted by a key -/
theorem insBy_asc {α : Type} (f : α → Nat) {le : α → α → Bool} (hle : ∀ a b, le a b = decide (f a ≤ f b)) (a : α) : ∀ {l : List α}, l.Pairwise (fun x y => f x < f y) → (∀ x ∈ l, f x ≠ f a) → (insBy le a l).Pairwise fun x y => f x < f y
  | [], _, _ => List.pairwise_singleton _ _
  | b :: l, h, n => by
    obtain ⟨h1, h2⟩ := List.pairwise_cons.mp h
    have nb := n b List.mem_cons_self
    show (if le a b = true then a :: b :: l else b :: insBy le a l).Pairwise _
    rw [hle]
    by_cases c : f a ≤ f b
    · rw [if_pos (decide_eq_true c)]
      refine List.pairwise_cons.mpr ⟨fun y hy => ?_, h⟩
      rcases List.mem_cons.mp hy with rfl | hy
      · omega
      · have := h1 y hy; omega
    · rw [if_neg (by simpa using c)]
      refine List.pairwise_cons.mpr ⟨fun y hy => ?_, insBy_asc f hle a h2 fun x hx => n x (List.mem_cons_of_mem _ hx)⟩
      rcases List.mem_cons.mp ((insBy_perm le a l).mem_iff.mp hy) with rfl | hy
      · omega
      · exact h1 y hy
theorem sortBy_asc {α : Type} (f : α → Nat) {le : α → α → Bool} (hle : ∀ a b, le a b = decide (f a ≤ f b)) : ∀ {l : List α}, l.Pairwise (fun x y => f x ≠ f y) → (sortBy le l).Pairwise fun x y => f x < f y
  | [], _ => List.Pairwise.nil
  | a :: l, h => by
    obtain ⟨h1, h2⟩ := List.pairwise_cons.mp h
    exact insBy_asc f hle a (sortBy_asc f hle h2) fun x hx => fun e => h1 x ((sortBy_perm le l).mem_iff.mp hx) e.symm
theorem leD_nat (a b : Nat) : leD (.int a) (.int b) = decide (a ≤ b) := by
  show (!PySem.W.dataLt (toPy (.int b)) (toPy (.int a))) = _
  have : PySem.W.dataLt (toPy (.int (b : Nat))) (toPy (.int (a : Nat))) = decide ((b : Int) < a) := PySem.W.dataLt_int _ _
  rw [this]
  by_cases h : a ≤ b
  · rw [decide_eq_true h, decide_eq_false (by omega)]; rfl
  · rw [decide_eq_false h, decide_eq_true (by omega)]; rfl
theorem sortL_asc {l : List Rw} (h : l.Pairwise fun a b => leadN a ≠ leadN b) : Asc (sortL l) :=
  sortBy_asc leadN (fun a b => leD_nat (leadN a) (leadN b)) h
section
variable {p : Int} {n : Nat}
theorem apart_lead {o o' : Rw} (h : ApartR o o') (h1 : at0 o (leadN o) = 1) : leadN o ≠ leadN o' := fun e => by
  have := h.2
  rw [← e, h1] at this
  cases this
theorem redS_lead {red : List Rw} (h : RedS p n red) : red.Pairwise fun a b => leadN a ≠ leadN b :=
  (List.Pairwise.imp_of_mem fun {a b} ha _ q => apart_lead q (h.all a ha).2.2) h.pw
theorem asc_with {red : List Rw} {row : Rw} (hp : Prm p) (hr : RedS p n red) (ha : Asc red) (hk : OkR p n row) : Asc (redWith p red row) := by
  have hw := redS_with hp hr hk
  unfold redWith at hw ⊢
  split
  · exact ha
  · rename_i c
    rw [if_neg c] at hw
    exact sortL_asc (redS_lead (hw.perm (sortBy_perm _ _).symm))
theorem asc_span (hp : Prm p) : ∀ {rows red : List Rw}, RedS p n red → Asc red → (∀ r ∈ rows, OkR p n r) → Asc (spanRed p red rows)
  | [], _, _, h, _ => h
  | r :: rows, red, hr, h, hk => asc_span hp (rows := rows) (redS_with hp hr (hk r List.mem_cons_self)) (asc_with hp hr h (hk r List.mem_cons_self)) fun x hx => hk x (List.mem_cons_of_mem _ hx)
/-! ### the reduced rows of rows -/
def redOf (p : Int) (rows : List Rw) : List Rw := spanRed p [] rows
theorem redOf_red (hp : Prm p) {rows : List Rw} (h : ∀ r ∈ rows, OkR p n r) : RedS p n (redOf p rows) := (redS_span hp RedS.nil h).1
theorem redOf_asc (hp : Prm p) {rows : List Rw} (h : ∀ r ∈ rows, OkR p n r) : Asc (redOf p rows) := asc_span hp (n := n) RedS.nil List.Pairwise.nil h
/-! ### one more row -/
/-! ### all sums of multiples -/
end
end Dv

/-! DyH: worths that part a row from a space; all rows of a field. -/
namespace Dv
open PySem PySem.Spec PyProof.Rows L2
section
variable {p : Int} {n : Nat}
theorem Prm.two {p : Int} (h : Prm p) : 2 ≤ p := by
  rcases h with rfl | rfl | rfl | rfl <;> decide
/-! ### all rows -/
end
end Dv

/-! DyI: x in o, o + p and the like by a class's own methods. -/
namespace Dv
open PySem PySem.Spec PyProof.Rows L2
/-! ### x in o -/
section
variable {X : Cx} {B : Bs} {W : WX} {k : Nat} {tbl : List (Str × Fn)}
/-! ### o + p, both of one class -/
structure SelfF (K : PySem.W.Frag) (mg : Str → Option Value) (tbl : List (Str × Fn)) : Prop where
  ok : ∀ c fn, tbl.lookup c = some fn → ∃ C : Addr, mg c = some (.ref C) ∧ PySem.W.selfFirst K C = true
end
/-! ### any, all of whole numbers -/
section
variable {X : Cx} {B : Bs} {W : WX}
theorem boot_sorted' : bootBuiltins "sorted" = some (.builtin "sorted") := by kernel_rfl
theorem sorted_ {p pos : Pos} {e : Expr} {es : List Expr} {n : DEnv → Mu → Res (List D)} (hu : Room 1 X.A) (hm : X.mg "sorted" = none) (ha : DA X B W (e :: es) n) (hg : Gl X "sorted" := by rfl) (he : starEach (e :: es) X.env = (false, eval e X.env) :: starEach es X.env := by rfl) (hpl : (backTo pos (starEach es X.env)).any (·.1) = false := by rfl) :
    DE X B W (.Call (.Name "sorted" p) (e :: es) [] pos) (dCall fSorted n) := de_callB (cr_sortX (by have := hu.un; omega)) ca_sorted hg hm boot_sorted' ha (by decide) (by decide) he hpl
end
/-! ### name = [.. for .. for ..] on one line -/
section
variable {X : Cx} {B : Bs} {W : WX}
theorem rd_tLc2 {T : Tx} {it it1 : DEnv → Mu → Res (List D)} {g g1 : TG} {t t1 : DTg} {is is1 : List Nat} {tt tt1 : DEnv → Mu → Res Bool} {el : DEx} {vs vs1 : List Nat} (gd : GD T.K T.mg g t is) (his : ∀ i ∈ is, i ∈ vs) (gd1 : GD T.K T.mg g1 t1 is1) (his1 : ∀ i ∈ is1, i ∈ vs1) {σ : L2.St} {H : Hp} {Q : VK}
    (h : rdE T B W (dLc2 it vs t tt it1 vs1 t1 tt1 el) σ H Q) : tLc2 (rdI T B W it) g (exT T tt) (exI T it1) g1 (exT T tt1) (exE T el) vs vs1 σ H Q := by
  obtain ⟨ρ, G, env, μ, R, k⟩ := h
  unfold dLc2 at k
  split at k
  · rename_i no
    refine ⟨ρ, G, env, μ, R, (KE.bind (f := lc2Fin t tt it1 vs1 t1 tt1 el (wipeD env vs)) k).imp fun ρ1 G1 H1 μ1 ds s p R1 k1 J wk => ?_⟩
    unfold lc2Fin at k1
    split at k1
    · rename_i l μ2 hr
      split at k1
      · rename_i hz
        exact rd_lc2 gd his gd1 his1 no hz R1 wk hr fun ρ' G' H' v s' p' R' hv => k1 ρ' G' H' s' p' R' v hv
      · exact k1.elim
    · exact k1.elim
  · exact k.elim
theorem ds_setLc2 {i : Nat} {y : Str} {py : Pos} {elt tg iter tg1 iter1 : Expr} {ifs ifs1 : List Expr} {scope : Scope} {own : List (Str × Nat)} {vs1 : List Nat} {pos spos : Pos} {it it1 : DEnv → Mu → Res (List D)} {g g1 : TG} {t t1 : DTg} {is is1 : List Nat} {tt tt1 : DEnv → Mu → Res Bool} {el : DEx}
    (hc : X.calm = true) (hN : X.N.Nodup) (hy : X.N[i]? = some y) (hyl : List.lookup y X.env.scope.names = some NameKind.local) (hsw : swapsWith (elt.ListComp [⟨tg, iter, ifs, 0⟩, ⟨tg1, iter1, ifs1, 0⟩] scope pos) (some (Expr.Name y py)) spos.line X.env = pure true)
    (hi : DI X B W tg iter it) (ok : BlkOk X.N X.env.scope scope own) (hv : ∀ i ∈ vs1, i ∈ own.map (·.2)) (gd : GD X.K X.mg g t is) (his : ∀ i ∈ is, i ∈ own.map (·.2)) (gd1 : GD X.K X.mg g1 t1 is1) (his1 : ∀ i ∈ is1, i ∈ vs1)
    (hg : ∀ (s : Shared) (H : Hp) (C : Addr) (cl : List (Str × Addr)) (fp : List Addr), PG (X.blk s H scope (compEnvC scope cl C X.env) fp) tg g)
    (ht : ∀ (s : Shared) (H : Hp) (C : Addr) (cl : List (Str × Addr)) (fp : List Addr) (B : Bs), DTs (X.blk s H scope (compEnvC scope cl C X.env) fp) B W0 ifs tt)
    (hi1 : ∀ (s : Shared) (H : Hp) (C : Addr) (cl : List (Str × Addr)) (fp : List Addr) (B : Bs), DI (X.blk s H scope (compEnvC scope cl C X.env) fp) B W0 tg1 iter1 it1)
    (hg1 : ∀ (s : Shared) (H : Hp) (C : Addr) (cl : List (Str × Addr)) (fp : List Addr), PG (X.blk s H scope (compEnvC scope cl C X.env) fp) tg1 g1)
    (ht1 : ∀ (s : Shared) (H : Hp) (C : Addr) (cl : List (Str × Addr)) (fp : List Addr) (B : Bs), DTs (X.blk s H scope (compEnvC scope cl C X.env) fp) B W0 ifs1 tt1)
    (he : ∀ (s : Shared) (H : Hp) (C : Addr) (cl : List (Str × Addr)) (fp : List Addr) (B : Bs), DE (X.blk s H scope (compEnvC scope cl C X.env) fp) B W0 elt el) (hs : ∀ x, foldedSetIterable iter X.env x = pure x := by intro _; rfl) (hs1 : ∀ env x, foldedSetIterable iter1 env x = pure x := by intro _ _; rfl) :
    DS X B W (.Assign [.Name y py] (.ListComp elt [⟨tg, iter, ifs, 0⟩, ⟨tg1, iter1, ifs1, 0⟩] scope pos) spos) (dAsg (dLc2 it (own.map (·.2)) t tt it1 vs1 t1 tt1 el) (tName i)) :=
  ds_asgG (ps_setLc2 (vs1 := vs1) (te := exE (tx X) el) (tt := exT (tx X) tt) (tt1 := exT (tx X) tt1) (wi1 := exI (tx X) it1) hc hN hy hyl hsw hi.run ok hv hg (fun s H C cl fp => pt_ex (ht s H C cl fp)) (fun s H C cl fp => pi_ex (hi1 s H C cl fp)) hg1 (fun s H C cl fp => pt_ex (ht1 s H C cl fp)) (fun s H C cl fp => pe_ex (he s H C cl fp)) hs hs1) (fun _ _ _ h => rd_tLc2 gd his gd1 his1 h) gd_name
end
/-! ### raises that may be dead -/
section
variable {X : Cx} {B : Bs} {W : WX}
def dRaiseB (b : Bool) (c fld code : Str) (n : DEnv → Mu → Res (List D)) : DSt := if b = true then dRaise c fld code n else dNo
theorem ds_raiseB {st : Stmt} {b : Bool} {c fld code : Str} {n : DEnv → Mu → Res (List D)} (h : DS X B W st (dRaise c fld code n)) : DS X B W st (dRaiseB b c fld code n) := by
  unfold dRaiseB
  split
  · exact h
  · exact ds_no
end
/-- the classes of errors that may be met -/
def zzOf (l : List Str) (c : Str) : Bool := decide (c ∈ l)
end Dv

/-! DzD: keyword-only parameters with defaults: makers, calls and methods with keywords. -/
namespace Dv
open PySem PySem.Spec PyProof.Rows L2
def litV : D → V
  | .int i => .int i
  | .bl b => .bl b
  | .str x => .str x
  | _ => .non
def isLitD : D → Bool
  | .int _ => true
  | .bl _ => true
  | .str _ => true
  | .non => true
  | _ => false
/-- the order: the positional values, then those that are lacking and those by name (pre: the lacking ones first) -/
def gQ {α : Type} (pre : Bool) (us mv ws : List α) : List α := us ++ (if pre = true then mv ++ ws else ws ++ mv)
structure QForm where
  n : Nat
  ks : List Str
  pre : Bool
  cs : List D
def QForm.okF (K : PySem.W.Frag) (fd : FuncData) (ps : List Str) (q : QForm) : Prop := q.cs.all isLitD = true ∧ ∃ g, KBn K fd ps q.n q.ks g (fun vs zs => gQ q.pre vs (q.cs.map litV) zs)
structure DefQ (P : Program) (w : World) (K : PySem.W.Frag) (mg : Str → Option Value) (base : Heap) (a : Addr) (ps : List Str) (fb : List QForm) (k : Nat) (m : Fn) : Prop where
  ex : ∃ fd : FuncData, PySem.W.keepIn K (.ref a) = true ∧ (∀ q ∈ fb, q.okF K fd ps) ∧ FnOk P w K mg base (L2.CX P w) k a fd ps (spD ⟨K, mg⟩ ps.length m)
structure MkQ (P : Program) (w : World) (K : PySem.W.Frag) (mg : Str → Option Value) (base : Heap) (c : Str) (ps : List Str) (fb : List QForm) (k : Nat) (m : Fn) : Prop where
  ex : ∃ (C fI : Addr) (fd : FuncData), mg c = some (.ref C) ∧ Mk K C fI ∧ (∀ q ∈ fb, q.okF K fd ps) ∧ FnOk P w K mg base (L2.CX P w) k fI fd ps (spD ⟨K, mg⟩ ps.length m)
/-- a def by its name, called in these ways -/
structure CalleeQ (P : Program) (w : World) (K : PySem.W.Frag) (mg : Str → Option Value) (base : Heap) (x : Str) (ps : List Str) (fb : List QForm) (k : Nat) (m : Fn) : Prop where
  ex : ∃ (f : Addr) (fd : FuncData), mg x = some (.ref f) ∧ PySem.W.keepIn K (.ref f) = true ∧ (∀ q ∈ fb, q.okF K fd ps) ∧ FnOk P w K mg base (L2.CX P w) k f fd ps (spD ⟨K, mg⟩ ps.length m)
/-- a method by the object's class, called in one way -/
structure MethQ (P : Program) (w : World) (K : PySem.W.Frag) (mg : Str → Option Value) (base : Heap) (m : Str) (q : QForm) (n k : Nat) (tbl : List (Str × Fn)) : Prop where
  ok : ∀ c fn, tbl.lookup c = some fn → ∃ (C g : Addr) (fd : FuncData) (ps : List Str) (j : Nat), ps.length = n ∧ j ≤ k ∧ mg c = some (.ref C) ∧ Cls K C ∧ Meth K C m g ∧ q.okF K fd ps ∧ FnOk P w K mg base (L2.CX P w) j g fd ps (spD ⟨K, mg⟩ ps.length fn)
section
variable {X : Cx} {CX : CXT} {k : Nat} {C fI : Addr} {fd : FuncData} {ps ks : List Str} {sp : Sp} {E : L2.St → XK} {g : List Value → List Value → List Value} {gV : List V → List V → List V}
end
section
variable {X : Cx} {B : Bs} {W : WX} {p pos : Pos} {e : Expr} {es : List Expr}
end
end Dv

/-! DzE: defs and methods called with keywords, some left to their defaults. -/
namespace Dv
open PySem PySem.Spec PyProof.Rows L2
section
variable {X : Cx} {CX : CXT} {k : Nat} {f : Addr} {fd : FuncData} {ps ks : List Str} {sp : Sp} {E : L2.St → XK} {g : List Value → List Value → List Value} {gV : List V → List V → List V}
end
section
variable {X : Cx} {B : Bs} {W : WX} {p pos apos : Pos} {e o : Expr} {es : List Expr}
/-! ### methods -/
end
end Dv

/-! DzF: texts: a sign by its place, parts, join, a sign in a text. -/
namespace Dv
open PySem PySem.Spec PyProof.Rows L2
section
variable {X : Cx} {B : Bs} {W : WX} {e o : Expr} {pos apos : Pos}
end
end Dv

/-! DzG: tables of methods called with keywords; a class's constant read through the class; a text's sign. -/
namespace Dv
open PySem PySem.Spec PyProof.Rows L2
section
variable {X : Cx} {B : Bs} {W : WX}
end
/-- a method called by position and with keywords -/
structure DefB (P : Program) (w : World) (K : PySem.W.Frag) (mg : Str → Option Value) (base : Heap) (a : Addr) (ps : List Str) (fb : List QForm) (k : Nat) (m : Fn) : Prop where
  ex : ∃ fd : FuncData, PySem.W.keepIn K (.ref a) = true ∧ Binds K fd ps [] ∧ (∀ q ∈ fb, q.okF K fd ps) ∧ FnOk P w K mg base (L2.CX P w) k a fd ps (spD ⟨K, mg⟩ ps.length m)
section
variable {P : Program} {w : World} {K : PySem.W.Frag} {mg : Str → Option Value} {base : Heap} {c d m : Str} {ps : List Str} {fb : List QForm} {q : QForm} {j k n : Nat} {fn : Fn} {tbl : List (Str × Fn)} {a : Addr}
theorem DefB.ok (h : DefB P w K mg base a ps fb k fn) : DefOk P w K mg base a ps k fn := by
  obtain ⟨fd, h1, h2, _, h4⟩ := h.ex
  exact ⟨fd, h1, h2, h4⟩
theorem DefB.qq (h : DefB P w K mg base a ps fb k fn) : DefQ P w K mg base a ps fb k fn := by
  obtain ⟨fd, h1, _, h3, h4⟩ := h.ex
  exact ⟨fd, h1, h3, h4⟩
theorem MethQ.nil : MethQ P w K mg base m q n k [] := ⟨fun c fn h => nomatch h⟩
theorem MethQ.cons (hm : mg c = some (.ref (He.ga K c))) (cl : Cls K (He.ga K c)) (s : samB c d m K = true) (F : DefQ P w K mg base (methAt d m K) ps fb j fn) (hq : q ∈ fb) (hn : ps.length = n) (hj : j ≤ k) (r : MethQ P w K mg base m q n k tbl) : MethQ P w K mg base m q n k ((c, fn) :: tbl) := ⟨fun x g e => by
  by_cases z : x = c
  · subst z
    rw [List.lookup_cons_self] at e; cases e
    obtain ⟨fd, _, hk, F⟩ := F.ex
    exact ⟨_, _, fd, ps, j, hn, hj, hm, cl, samB_ok s, hk q hq, F⟩
  · rw [List.lookup_cons, beq_false_of_ne z] at e
    exact r.ok x g e⟩
end
/-! ### C.f, a constant of the class -/
structure CConV (K : PySem.W.Frag) (mg : Str → Option Value) (c f : Str) (d : D) : Prop where
  ex : ∃ (C : Addr) (mc : Value) (v : V) (u : Value), mg c = some (.ref C) ∧ ClX.CRead K C mc ∧ ClX.CVal K C mc f v u ∧ ∀ ρ G, Rep ⟨K, mg⟩ ρ G v d
end Dv
namespace Dv
open PySem PySem.Spec PyProof.Rows L2
end Dv
namespace Dv
open PySem PySem.Spec PyProof.Rows L2
theorem SelfF.nil {K : PySem.W.Frag} {mg : Str → Option Value} : SelfF K mg [] := ⟨fun c fn h => nomatch h⟩
theorem SelfF.cons {K : PySem.W.Frag} {mg : Str → Option Value} {c : Str} {C : Addr} {fn : Fn} {tbl : List (Str × Fn)} (h1 : mg c = some (.ref C)) (h2 : PySem.W.selfFirst K C = true) (r : SelfF K mg tbl) : SelfF K mg ((c, fn) :: tbl) := ⟨fun x g e => by
  by_cases z : x = c
  · subst z
    exact ⟨C, h1, h2⟩
  · rw [List.lookup_cons, beq_false_of_ne z] at e
    exact r.ok x g e⟩
end Dv

/-! DzK: a star parameter together with keyword-only ones. -/
namespace Dv
open PySem PySem.Spec PyProof.Rows L2
/-- like KwChain, ending in any term -/
def KwTo {α : Type} (D : Addr) : List (Str × Value) → Sem α → Sem α → Prop
  | [], t, z => t = z
  | q :: l, t, z => ∃ (β γ : Type) (k1 : Option Value → Sem β) (k2 : β → Sem γ) (k3 : γ → Sem α) (a : β), t = ((nsGet D q.1 >>= k1) >>= k2) >>= k3 ∧ k1 (some q.2) = pure a ∧ KwTo D l (k2 a >>= k3) z
theorem KwTo.run {α : Type} {K : PySem.W.Frag} {M : Model} {D : Addr} {A : Around} {Q : α → Shared → Prop} {E : Value → Shared → Prop} {s : Shared} (X : K.In s.heap) : ∀ {l : List (Str × Value)} {t z : Sem α}, (∀ q ∈ l, PySem.W.nsIn K D q.1 = some (some q.2)) → KwTo D l t z → wpAny M A z Q E s → wpAny M A t Q E s
  | [], t, z, _, e, h => by
    have e : t = z := e
    rw [e]; exact h
  | q :: l, t, z, hl, e, h => by
    obtain ⟨β, γ, k1, k2, k3, a, e1, e2, e3⟩ := e
    have r := KwTo.run (M := M) (A := A) (Q := Q) (E := E) X (fun p hp => hl p (List.mem_cons_of_mem _ hp)) e3 h
    have l1 : PySem.W.Looks M s.heap (nsGet D q.1 >>= k1) a := (PySem.W.looks_nsIn X (hl q (List.mem_cons_self ..))).andThen (PySem.W.Looks.of_pure e2)
    rw [e1, bind_assoc]
    refine wpAny_bind ?_
    exact l1 A _ _ s (fun _ _ x => x) r
/-- the values by position, those left over as one tuple, the values by name (all at the end) -/
def starKw (n : Nat) (q : QForm) (m : Fn) : Fn := fun all μ => if n + q.ks.length ≤ all.length ∧ szl (all.length - q.ks.length - n) then
    m (gQ q.pre ((all.take (all.length - q.ks.length)).take n) q.cs (all.drop (all.length - q.ks.length)) ++ [.tup ((all.take (all.length - q.ks.length)).drop n)]) μ
  else none
def FnRQ (P : Program) (w : World) (K : PySem.W.Frag) (mg : Str → Option Value) (base : Heap) (CX : CXT) (k : Nat) (f : Addr) (ks : List Str) (sp : Sp) : Prop :=
  ∀ (A : Around) (outer : List Env) (s : Shared) (H : Hp) (us ws : List Value) (vs zs : List V) (Q : VK) (E : XK), Room k A → Env0 P w K mg base A outer s H → Vals vs us → Vals zs ws → zs.length = ks.length → sp (vs ++ zs) H Q E →
    codeAny (model P w) A (.call (.ref f) ⟨us, ks.zip ws⟩) (CR CX outer P w H s Q E) s
section
variable {P : Program} {w : World} {K : PySem.W.Frag} {mg : Str → Option Value} {base : Heap} {x qual : Str} {params : Arguments} {body : List Stmt} {scope : Scope} {f : Addr} {fd : FuncData}
end
end Dv

/-! DzL: making by an __init__ with a star parameter and keyword-only ones. -/
namespace Dv
open PySem PySem.Spec PyProof.Rows L2
structure MkVQ (P : Program) (w : World) (K : PySem.W.Frag) (mg : Str → Option Value) (base : Heap) (c : Str) (npos : Nat) (fb : List QForm) (k : Nat) (m : Fn) : Prop where
  ex : ∃ C fI : Addr, mg c = some (.ref C) ∧ Mk K C fI ∧ ∀ q ∈ fb, FnRQ P w K mg base (L2.CX P w) k fI q.ks (spV ⟨K, mg⟩ (starKw npos q m))
section
variable {X : Cx} {B : Bs} {W : WX} {k : Nat} {C fI : Addr} {sp : Sp} {ks : List Str} {E : L2.St → XK}
variable {e : Expr} {es : List Expr} {p pos : Pos}
end
end Dv
namespace Dv
open PySem PySem.Spec PyProof.Rows L2
end Dv

/-! DzM: `in` over a store's list. -/
namespace Dv
open PySem PySem.Spec PyProof.Rows L2
section
variable {X : Cx} {B : Bs} {W : WX}
end
end Dv

/-! DzN: a def drops the store's objects of its own as it returns. -/
namespace Dv
open PySem PySem.Spec PyProof.Rows L2
/-- no store object is in what is given back (a list just made: none in its items) -/
def noObjX : D → Bool
  | .new l => noObjs l
  | d => noObj d
def cutFn (m : Fn) : Fn := fun ds μ => match m ds μ with
  | some (.val d, μ') => if μ.length ≤ μ'.length ∧ noObjX d = true ∧ muOk (μ'.take μ.length) = true then some (.val d, μ'.take μ.length) else none
  | some (.exc x, μ') => if μ.length ≤ μ'.length ∧ noObjF x.fs = true ∧ muOk (μ'.take μ.length) = true then some (.exc x, μ'.take μ.length) else none
  | none => none
section
variable {T : Tx} {n : Nat} {m : Fn} {vs : List V} {H : Hp} {Q : VK} {E : XK}
theorem sp_cut (h : spD T n (cutFn m) vs H Q E) : spD T n m vs H Q E := by
  obtain ⟨hl, ρ, G, ds, μ, gh, st, rs, k⟩ := h
  refine ⟨hl, ρ, G, ds, μ, gh, st, rs, ?_⟩
  have back : ∀ {ρ' : List Addr} {G' H' : Hp} {μ' : Mu}, Ext ρ G H ρ' G' H' → StR T ρ' G' H' μ' → μ.length ≤ μ'.length → muOk (μ'.take μ.length) = true →
      Ext ρ G H ρ G' H' ∧ StR T ρ G' H' (μ'.take μ.length) := fun {ρ' G' H' μ'} ex st' ln ok => by
    refine ⟨⟨ex.gg, .refl _, ex.keep, ex.fg, fun a h n0 => absurd h n0⟩, ⟨?_, st.nd, fun a ha => st'.off a (mem_of_pre ex.pre ha), fun j z hz => ?_⟩⟩
    · rw [List.length_take, st.len]; omega
    · have lt : j < μ.length := by
        have := (List.getElem?_eq_some_iff.mp hz).1
        rw [List.length_take] at this; omega
      have hz' := hz
      rw [List.getElem?_take_of_lt lt] at hz'
      obtain ⟨a, ea, rr⟩ := st'.at_ j z hz'
      have lt2 : j < ρ.length := by rw [st.len]; exact lt
      have e1 : ρ[j]? = some ρ[j] := List.getElem?_eq_getElem lt2
      have e2 := ex.pre j _ e1
      rw [ea] at e2
      cases e2
      exact ⟨_, e1, rr.off (muOk_get ok hz)⟩
  unfold cutFn at k
  cases e : m ds μ with
  | none => rw [e] at k; exact k.elim
  | some q =>
    obtain ⟨o, μ'⟩ := q
    rw [e] at k
    match o, k with
    | .val d, k =>
      have k : KC T ρ G H Q E (if μ.length ≤ μ'.length ∧ noObjX d = true ∧ muOk (μ'.take μ.length) = true then some (.val d, μ'.take μ.length) else none) := k
      split at k
      · rename_i h
        obtain ⟨ln, nd, ok⟩ := h
        intro v ρ' G' H' ex gh' st' ro
        obtain ⟨ex2, st2⟩ := back ex st' ln ok
        refine k v ρ G' H' ex2 gh' st2 ?_
        cases d with
        | new l =>
          obtain ⟨q, ws, e1, e2, e3, e4, e5, e6, e7⟩ := ro
          exact ⟨q, ws, e1, e2, Reps.off nd e3, e4, e5, fun z => e6 (mem_of_pre ex.pre z), e7⟩
        | _ => exact Rep.off (ρ := ρ') nd ro
      · exact k.elim
    | .exc x, k =>
      have k : KC T ρ G H Q E (if μ.length ≤ μ'.length ∧ noObjF x.fs = true ∧ muOk (μ'.take μ.length) = true then some (.exc x, μ'.take μ.length) else none) := k
      split at k
      · rename_i h
        obtain ⟨ln, nf, ok⟩ := h
        intro cls dd ρ' G' H' ex gh' st' er
        obtain ⟨ex2, st2⟩ := back ex st' ln ok
        obtain ⟨C', d, vf, h1, h2, h3, h4, h5⟩ := er
        exact k cls dd ρ G' H' ex2 gh' st2 ⟨C', d, vf, h1, h2, h3, h4, h5.off nf⟩
      · exact k.elim
end
section
variable {P : Program} {w : World} {K : PySem.W.Frag} {mg : Str → Option Value} {base : Heap} {CX : CXT} {k : Nat} {f : Addr} {fd : FuncData} {ps : List Str}
theorem ok_cut {n : Nat} {m : Fn} (F : FnOk P w K mg base CX k f fd ps (spD ⟨K, mg⟩ n m)) : FnOk P w K mg base CX k f fd ps (spD ⟨K, mg⟩ n (cutFn m)) := ok_weak F fun _ _ _ _ h => sp_cut h
theorem Callee.cut {y : Str} {ps : List Str} {kb : List (Nat × List Str)} {k : Nat} {m : Fn} (C : Callee P w K mg base y ps kb k m) : Callee P w K mg base y ps kb k (cutFn m) := by
  obtain ⟨f, fd, h1, h2, h3, h4, h5⟩ := C.ex
  exact ⟨f, fd, h1, h2, h3, h4, ok_cut h5⟩
theorem DefOk.cut {a : Addr} {m : Fn} (C : DefOk P w K mg base a ps k m) : DefOk P w K mg base a ps k (cutFn m) := by
  obtain ⟨fd, h1, h2, h3⟩ := C.ex
  exact ⟨fd, h1, h2, ok_cut h3⟩
end
end Dv

/-! DyQA: sleeping generators that nobody wakes. -/
namespace Gw
open PySem PyProof.Rows
open Sem (wp)

/-- the continuation of one that must not be woken -/
def mute : Resume → Sem PySem.Fin := fun _ => .unsupported "asleep"
def muted : GenState → GenState
  | .suspended _ l c p fs cl => .suspended mute l c p fs cl
  | x => x
theorem no_mute {M : Model} {Γ : Ctx} {p : Pos} {t : Sem PySem.Fin} {fs : List Frame} {s s' : Shared} {e : End} (h : Runs M Γ p t fs s e s') : ∀ w, t ≠ .unsupported w := by
  induction h <;> intro w hw
  case segRet ih _ => exact ih w hw
  case segGen ih _ => exact ih w hw
  case segSuspOut ih => exact ih w hw
  case segSuspGen ih _ => exact ih w hw
  all_goals cases hw
/-- no frame of another generator -/
def Plain1 : Frame → Prop
  | .ret .. => True
  | .gen .. => False
def Gf (fs : List Frame) : Prop := ∀ F ∈ fs, Plain1 F
theorem Gf.split {fs : List Frame} (h : Gf fs) : splitAtGen fs = none := by
  induction fs with
  | nil => rfl
  | cons F fs ih =>
    have := h F List.mem_cons_self
    cases F with
    | gen => exact this.elim
    | ret => simp only [splitAtGen, ih fun G hG => h G (List.mem_cons_of_mem _ hG), Option.map_none]
def GfE : End → Prop
  | .ret _ => True
  | .susp _ _ _ _ _ _ fs => Gf fs
def GfS : GenState → Prop
  | .suspended _ _ _ _ fs _ => Gf fs
  | _ => True
theorem GfE.st {e : End} (h : GfE e) : GfS e.genState := by cases e <;> exact h
/-- the table as it really stands: o tells who sleeps -/
def unG (o : Nat → Option GenState) (G : Array GenState) : Array GenState := G.mapIdx fun i x => (o i).getD x
def unS (o : Nat → Option GenState) (s : Shared) : Shared := { s with gens := unG o s.gens }
structure OkG (o : Nat → Option GenState) (G : Array GenState) : Prop where
  sl : ∀ i y, o i = some y → G[i]? = some (muted y) ∧ ∃ k l c p fs cl, y = .suspended k l c p fs cl
  no : ∀ i x, o i = none → G[i]? = some x → GfS x
section
variable {o : Nat → Option GenState} {G : Array GenState} {g i : Nat} {x y : GenState}
theorem unG_size : (unG o G).size = G.size := by unfold unG; simp
theorem unG_get : (unG o G)[i]? = (G[i]?).map fun x => (o i).getD x := by unfold unG; simp
theorem unG_at (h : G[i]? = some x) : (unG o G)[i]? = some ((o i).getD x) := by rw [unG_get, h]; rfl
theorem unG_set (h : o g = none) : unG o (G.setIfInBounds g x) = (unG o G).setIfInBounds g x := by
  apply Array.ext_getElem?
  intro j
  rw [unG_get]
  by_cases hj : j = g
  · subst hj
    by_cases hl : j < G.size
    · rw [Array.getElem?_setIfInBounds_self_of_lt hl, Array.getElem?_setIfInBounds_self_of_lt (by rw [unG_size]; exact hl), h]; rfl
    · have e1 : (G.setIfInBounds j x)[j]? = none := by simp; omega
      have e2 : ((unG o G).setIfInBounds j x)[j]? = none := by simp [unG_size]; omega
      rw [e1, e2]; rfl
  · rw [Array.getElem?_setIfInBounds_ne (Ne.symm hj), Array.getElem?_setIfInBounds_ne (Ne.symm hj), unG_get]
theorem unG_push (h : o G.size = none) : unG o (G.push x) = (unG o G).push x := by
  apply Array.ext_getElem?
  intro j
  rw [unG_get, Array.getElem?_push, Array.getElem?_push, unG_size]
  by_cases hj : j = G.size
  · subst hj; simp [h]
  · rw [if_neg hj, if_neg hj, unG_get]
theorem OkG.size (h : OkG o G) : o G.size = none := by
  cases e : o G.size with
  | none => rfl
  | some y =>
    have := (h.sl _ y e).1
    simp at this
theorem OkG.set (h : OkG o G) (hg : o g = none) (hx : GfS x) : OkG o (G.setIfInBounds g x) := by
  refine ⟨fun i y e => ?_, fun i z e q => ?_⟩
  · have hi : g ≠ i := fun z => by rw [z, e] at hg; cases hg
    rw [Array.getElem?_setIfInBounds_ne hi]
    exact h.sl i y e
  · by_cases hi : g = i
    · subst hi
      rw [Array.getElem?_setIfInBounds] at q
      split at q
      · split at q
        · cases q; exact hx
        · cases q
      · exact h.no _ z e q
    · rw [Array.getElem?_setIfInBounds_ne hi] at q
      exact h.no i z e q
theorem OkG.push (h : OkG o G) (hx : GfS x) : OkG o (G.push x) := by
  refine ⟨fun i y e => ?_, fun i z e q => ?_⟩
  · obtain ⟨a, b⟩ := h.sl i y e
    have hl : i < G.size := (Array.getElem?_eq_some_iff.mp a).1
    refine ⟨?_, b⟩
    rw [Array.getElem?_push_lt hl, ← Array.getElem?_eq_getElem hl]; exact a
  · rw [Array.getElem?_push] at q
    split at q
    · cases q; exact hx
    · exact h.no i z e q
theorem OkG.none_of (h : OkG o G) (q : G[g]? = some x) (hx : ∀ y, o g = some y → x ≠ muted y) : o g = none := by
  cases e : o g with
  | none => rfl
  | some y =>
    have := (h.sl g y e).1
    rw [q] at this; cases this
    exact (hx y e rfl).elim
theorem OkG.noneF {c : Code} (h : OkG o G) (q : G[g]? = some (.fresh c)) : o g = none := h.none_of q fun y e z => by
  obtain ⟨_, k, l, c, p, fs, cl, rfl⟩ := h.sl g y e; cases z
theorem OkG.noneR (h : OkG o G) (q : G[g]? = some .running) : o g = none := h.none_of q fun y e z => by
  obtain ⟨_, k, l, c, p, fs, cl, rfl⟩ := h.sl g y e; cases z
theorem OkG.noneD (h : OkG o G) (q : G[g]? = some .finished) : o g = none := h.none_of q fun y e z => by
  obtain ⟨_, k, l, c, p, fs, cl, rfl⟩ := h.sl g y e; cases z
theorem unG_none (q : G[g]? = some x) (h : o g = none) : (unG o G)[g]? = some x := by rw [unG_at q, h]; rfl
theorem OkG.seen (h : OkG o G) (q : G[g]? = some x) : ((o g).getD x).seen = x.seen := by
  cases e : o g with
  | none => rfl
  | some y =>
    obtain ⟨a, k, l, c, p, fs, cl, rfl⟩ := h.sl g y e
    rw [q] at a; cases a; rfl
end
section
variable {M : Model} {o : Nat → Option GenState}
theorem unS_set {s : Shared} {g : Nat} {x : GenState} (h : o g = none) : unS o (s.setGen g x) = (unS o s).setGen g x := by
  unfold unS Shared.setGen
  simp only [unG_set h]
theorem unS_push {s : Shared} {x : GenState} (h : o s.gens.size = none) : unS o { s with gens := s.gens.push x } = { unS o s with gens := (unS o s).gens.push x } := by
  unfold unS
  simp only [unG_push h]
theorem runs_un {Γ : Ctx} {p : Pos} {t : Sem PySem.Fin} {fs : List Frame} {s s' : Shared} {e : End} (h : Runs M Γ p t fs s e s') :
    OkG o s.gens → Gf fs → OkG o s'.gens ∧ GfE e ∧ Runs M Γ p t fs (unS o s) e (unS o s') := by
  have lift : ∀ {a b c d : Prop}, (c → d) → a ∧ b ∧ c → a ∧ b ∧ d := fun f h => ⟨h.1, h.2.1, f h.2.2⟩
  have g0 : Gf [] := fun F hF => by cases hF
  induction h with
  | done => exact fun h _ => ⟨h, trivial, .done⟩
  | raise => exact fun h _ => ⟨h, trivial, .raise⟩
  | again q _ ih => exact fun h f => lift (.again q) (ih h f)
  | rule _ ih => exact fun h f => lift .rule (ih h f)
  | «at» _ ih => exact fun h f => lift .at (ih h f)
  | load q _ ih => exact fun h f => lift (.load (s := unS o _) q) (ih h f)
  | update q _ ih => exact fun h f => lift (.update (s := unS o _) q) (ih h f)
  | loadIfAlive _ ih => exact fun h f => lift (.loadIfAlive (s := unS o _)) (ih h f)
  | point _ ih => exact fun h f => lift .point (ih h f)
  | alloc _ ih => exact fun h f => lift (.alloc (s := unS o _)) (ih h f)
  | fresh _ ih => exact fun h f => lift (.fresh (s := unS o _)) (ih h f)
  | ask _ ih => exact fun h f => lift .ask (ih h f)
  | choose q _ ih => exact fun h f => lift (.choose (s := unS o _) q) (ih h f)
  | os _ ih => exact fun h f => lift (.os (s := unS o _)) (ih h f)
  | handled _ ih => exact fun h f => lift .handled (ih h f)
  | genState q _ ih =>
    intro h f
    obtain ⟨a, b, r⟩ := ih h f
    refine ⟨a, b, .genState (unG_at q) ?_⟩
    rw [h.seen q]; exact r
  | stack _ ih => exact fun h f => lift .stack (ih h f)
  | thread _ ih => exact fun h f => lift .thread (ih h f)
  | newGen _ ih =>
    rename_i s1 _ _ c1 _
    intro h f
    obtain ⟨a, b, r⟩ := ih (h.push trivial) f
    refine ⟨a, b, .newGen ?_⟩
    have e2 : (unS o s1).gens.size = s1.gens.size := unG_size
    rw [e2]
    have e3 := unS_push (s := s1) (x := .fresh c1) h.size
    rw [e3] at r
    exact r
  | call _ _ ih1 ih2 =>
    intro h f
    obtain ⟨a1, _, r1⟩ := ih1 h g0
    obtain ⟨a2, b2, r2⟩ := ih2 a1 f
    exact ⟨a2, b2, .call r1 r2⟩
  | callSusp _ ih =>
    intro h f
    obtain ⟨a, b, r⟩ := ih h g0
    refine ⟨a, fun F hF => ?_, .callSusp r⟩
    rcases List.mem_append.mp hF with z | z
    · exact b F z
    · rw [List.mem_singleton.mp z]; exact trivial
  | yield => exact fun h f => ⟨h, g0, .yield⟩
  | resumeFresh q _ hq _ ih1 ih2 =>
    intro h f
    have hn := h.noneF q
    obtain ⟨a1, b1, r1⟩ := ih1 (h.set hn trivial) g0
    obtain ⟨a2, b2, r2⟩ := ih2 (a1.set hn b1.st) f
    rw [unS_set hn] at r1 r2
    exact ⟨a2, b2, .resumeFresh (unG_none q hn) r1 hq r2⟩
  | @resumeSuspended _ _ g' _ _ _ _ _ _ _ _ _ _ _ _ _ _ q r0 hq _ ih1 ih2 =>
    intro h f
    have hn : o g' = none := h.none_of q fun y e z => by
      obtain ⟨_, k, l, c, p, fs, cl, rfl⟩ := h.sl _ y e
      cases z
      exact no_mute r0 _ rfl
    obtain ⟨a1, b1, r1⟩ := ih1 (h.set hn trivial) (h.no _ _ hn q)
    obtain ⟨a2, b2, r2⟩ := ih2 (a1.set hn b1.st) f
    rw [unS_set hn] at r1 r2
    exact ⟨a2, b2, .resumeSuspended (unG_none q hn) r1 hq r2⟩
  | resumeJustStarted q hv _ ih =>
    intro h f
    exact lift (.resumeJustStarted (s := unS o _) (unG_none q (h.noneF q)) hv) (ih h f)
  | resumeThrowFresh q _ ih =>
    intro h f
    have hn := h.noneF q
    obtain ⟨a2, b2, r2⟩ := ih (h.set hn trivial) f
    rw [unS_set hn] at r2
    exact ⟨a2, b2, .resumeThrowFresh (unG_none q hn) r2⟩
  | resumeRunning q _ ih =>
    intro h f
    exact lift (.resumeRunning (s := unS o _) (unG_none q (h.noneR q))) (ih h f)
  | resumeFinished q _ ih =>
    intro h f
    exact lift (.resumeFinished (s := unS o _) (unG_none q (h.noneD q))) (ih h f)
  | segRet _ _ ih1 ih2 =>
    intro h f
    obtain ⟨a1, _, r1⟩ := ih1 h g0
    obtain ⟨a2, b2, r2⟩ := ih2 a1 fun F hF => f F (List.mem_cons_of_mem _ hF)
    exact ⟨a2, b2, .segRet r1 r2⟩
  | segGen _ _ _ _ => exact fun _ f => (f _ List.mem_cons_self).elim
  | segSuspOut q _ ih =>
    intro h f
    obtain ⟨a, b, r⟩ := ih h g0
    refine ⟨a, fun F hF => ?_, .segSuspOut q r⟩
    rcases List.mem_append.mp hF with z | z
    · exact b F z
    · exact f F z
  | segSuspGen q _ _ _ _ _ =>
    intro _ f
    rw [f.split] at q; cases q
theorem wakes_un {Γ : Ctx} {p : Pos} {g : Nat} {r : Resume} {s s' : Shared} {res : GenResult} (h : Wakes M Γ p g r s res s') (ok : OkG o s.gens) : OkG o s'.gens ∧ Wakes M Γ p g r (unS o s) res (unS o s') := by
  have g0 : Gf [] := fun F hF => by cases hF
  unfold Wakes at h
  split at h
  · exact h.elim
  · rename_i c q
    have hn := ok.noneF q
    have q2 : (unS o s).gens[g]? = _ := unG_none q hn
    unfold Wakes
    rw [q2]
    cases r with
    | send v =>
      cases v with
      | none =>
        obtain ⟨e₁, s₁, hr, hq, h1, rfl⟩ := h
        obtain ⟨a, b, r1⟩ := runs_un hr (ok.set hn trivial) g0
        rw [unS_set hn] at r1
        exact ⟨a.set hn b.st, e₁, _, r1, hq, h1, unS_set hn⟩
      | _ => exact ⟨by rw [h.2]; exact ok, h.1, by rw [h.2]⟩
    | throw x => exact ⟨by rw [h.2]; exact ok.set hn trivial, h.1, by rw [h.2]; exact unS_set hn⟩
  · rename_i k₀ l₀ c₀ p₀ fs cl q
    have hn : o g = none := ok.none_of q fun y e z => by
      obtain ⟨_, k, l, c, p, fs, cl, rfl⟩ := ok.sl _ y e
      cases z
      obtain ⟨e₁, s₁, hr, _⟩ := h
      exact no_mute hr _ rfl
    have q2 : (unS o s).gens[g]? = _ := unG_none q hn
    unfold Wakes
    rw [q2]
    obtain ⟨e₁, s₁, hr, hq, h1, rfl⟩ := h
    obtain ⟨a, b, r1⟩ := runs_un hr (ok.set hn trivial) (ok.no _ _ hn q)
    rw [unS_set hn] at r1
    exact ⟨a.set hn b.st, e₁, _, r1, hq, h1, unS_set hn⟩
  · rename_i q
    have q2 : (unS o s).gens[g]? = _ := unG_none q (ok.noneR q)
    unfold Wakes
    rw [q2]
    exact ⟨by rw [h.2]; exact ok, h.1, by rw [h.2]⟩
  · rename_i q
    have q2 : (unS o s).gens[g]? = _ := unG_none q (ok.noneD q)
    unfold Wakes
    rw [q2]
    exact ⟨by rw [h.2]; exact ok, h.1, by rw [h.2]⟩
/-- behind a run over the muted table -/
def Un1 (o : Nat → Option GenState) (Q : Shared → Prop) (s' : Shared) : Prop := ∃ s₁, s' = unS o s₁ ∧ OkG o s₁.gens ∧ Q s₁
theorem wp_un {α : Type} (Γ : Ctx) (t : Sem α) (Qa : α → Pos → Shared → Prop) (Ea : Value → Pos → Shared → Prop) : ∀ (q : Pos) (s : Shared), OkG o s.gens → wp M Γ t Qa Ea q s → wp M Γ t (fun a p' => Un1 o (Qa a p')) (fun e p' => Un1 o (Ea e p')) q (unS o s) := by
  induction t with
  | pure | raise => intro q s ok w; exact ⟨s, rfl, ok, w⟩
  | unsupported | finish | register | yield | fork | await => intro q s _ w; exact w
  | rule _ _ ih | point _ _ ih => intro q s ok w; exact ih () q s ok w
  | «at» r _ ih => intro _ s ok w; exact ih () r s ok w
  | load _ _ _ ih => intro q s ok ⟨ob, ho, w⟩; exact ⟨ob, ho, ih ob q s ok w⟩
  | update a _ f _ ih => intro q s ok ⟨w1, w2⟩; exact ⟨w1, ih () q { s with heap := s.heap.update a f } ok w2⟩
  | loadIfAlive _ _ ih | handled _ _ ih => intro q s ok w; exact ih _ q s ok w
  | ask _ ih | stack _ ih | thread _ ih => intro q s ok w; exact ih _ q s ok w
  | alloc ob _ ih => intro q s ok w; exact ih _ q { s with heap := s.heap.push ob } ok w
  | fresh _ ih => intro q s ok w; exact ih _ q { s with toks := s.toks + 1 } ok w
  | choose src _ _ ih => intro q s ok ⟨w1, w2⟩; exact ⟨w1, ih _ q { s with drawn := s.drawn.bump src } ok w2⟩
  | os rq _ _ ih => intro q s ok w; exact ih _ q { s with os := (Os.step s.os rq).1 } ok w
  | call _ _ _ _ _ ih =>
    intro q s ok ⟨r, s', hr, w⟩
    obtain ⟨a, _, r2⟩ := runs_un (o := o) hr ok (fun F hF => by cases hF)
    exact ⟨r, _, r2, ih r q s' a w⟩
  | genState _ _ ih =>
    intro q s ok ⟨st, hs, w⟩
    refine ⟨_, unG_at hs, ?_⟩
    rw [ok.seen hs]
    exact ih _ q s ok w
  | newGen c k ih =>
    intro q s ok w
    have := ih _ q { s with gens := s.gens.push (.fresh c) } (ok.push trivial) w
    rw [unS_push ok.size] at this
    have e2 : (unS o s).gens.size = s.gens.size := unG_size
    show wp M Γ (k (unS o s).gens.size) _ _ q _
    rw [e2]
    exact this
  | resume _ _ _ _ ih =>
    intro q s ok ⟨res, s', hw, w⟩
    obtain ⟨a, w2⟩ := wakes_un hw ok
    exact ⟨res, _, w2, ih res q s' a w⟩
end
/-- all sleepers, muted -/
def sleepers (G : Array GenState) : Nat → Option GenState := fun i => match G[i]? with
  | some (.suspended k l c p fs cl) => some (.suspended k l c p fs cl)
  | _ => none
def mutedAll (s : Shared) : Shared := { s with gens := s.gens.map muted }
theorem sleepers_some {G : Array GenState} {i : Nat} {y : GenState} (h : sleepers G i = some y) : G[i]? = some y ∧ ∃ k l c p fs cl, y = .suspended k l c p fs cl := by
  unfold sleepers at h
  split at h
  · rename_i e; cases h; exact ⟨e, _, _, _, _, _, _, rfl⟩
  · cases h
theorem ok_muted (s : Shared) : OkG (sleepers s.gens) (mutedAll s).gens := by
  refine ⟨fun i y h => ?_, fun i x h q => ?_⟩
  · obtain ⟨a, b⟩ := sleepers_some h
    refine ⟨?_, b⟩
    show (s.gens.map muted)[i]? = _
    rw [Array.getElem?_map, a]; rfl
  · have q : (s.gens.map muted)[i]? = some x := q
    rw [Array.getElem?_map] at q
    unfold sleepers at h
    cases e : s.gens[i]? with
    | none => rw [e] at q; cases q
    | some z =>
      rw [e] at q h
      cases q
      cases z with
      | suspended => cases h
      | _ => exact trivial
theorem un_muted (s : Shared) : unS (sleepers s.gens) (mutedAll s) = s := by
  obtain ⟨hp, G, d, t, os⟩ := s
  show (⟨_, unG (sleepers G) (G.map muted), _, _, _⟩ : Shared) = _
  congr 1
  apply Array.ext_getElem?
  intro i
  rw [unG_get, Array.getElem?_map]
  cases e : G[i]? with
  | none => rfl
  | some z =>
    unfold sleepers
    rw [e]
    cases z <;> rfl
/-- what sleeps keeps its place; the rest is as the muted run left it -/
structure Slept1 (G : Array GenState) (s₁ s' : Shared) : Prop where
  eq : s' = { s₁ with gens := s'.gens }
  at_ : ∀ (g : Nat) k l c p fs cl, G[g]? = some (GenState.suspended k l c p fs cl) → s'.gens[g]? = some (GenState.suspended k l c p fs cl)
  bare : AllBare G → AllBare s₁.gens → AllBare s'.gens
theorem slept_of {s s₁ : Shared} (h : OkG (sleepers s.gens) s₁.gens) : Slept1 s.gens s₁ (unS (sleepers s.gens) s₁) := by
  refine ⟨rfl, fun g k l c p fs cl e => ?_, fun b b1 x hx => ?_⟩
  · have e1 : sleepers s.gens g = some (.suspended k l c p fs cl) := by unfold sleepers; rw [e]
    show (unG _ _)[g]? = _
    rw [unG_at (h.sl g _ e1).1, e1]; rfl
  · obtain ⟨i, hi, e⟩ := Array.mem_iff_getElem.mp hx
    have q : (unG (sleepers s.gens) s₁.gens)[i]? = some x := (Array.getElem?_eq_getElem hi).trans (congrArg some e)
    rw [unG_get] at q
    cases e1 : s₁.gens[i]? with
    | none => rw [e1] at q; cases q
    | some z =>
      rw [e1] at q
      cases e2 : sleepers s.gens i with
      | none => rw [e2] at q; cases q; exact b1 _ (Array.mem_of_getElem? e1)
      | some y =>
        rw [e2] at q; cases q
        exact b _ (Array.mem_of_getElem? (sleepers_some e2).1)
theorem bare_muted {s : Shared} (h : AllBare s.gens) : AllBare (mutedAll s).gens := by
  intro x hx
  obtain ⟨y, hy, rfl⟩ := Array.mem_map.mp (show x ∈ s.gens.map muted from hx)
  have := h y hy
  cases y <;> exact this
/-- THE RULE: code that runs over the muted table wakes none of the sleepers -/
theorem wpAny_slept {α : Type} {M : Model} {A : Around} {t : Sem α} {Q : α → Shared → Prop} {E : Value → Shared → Prop} {s : Shared} (h : wpAny M A t Q E (mutedAll s)) :
    wpAny M A t (fun a s' => ∃ s₁, Slept1 s.gens s₁ s' ∧ Q a s₁) (fun e s' => ∃ s₁, Slept1 s.gens s₁ s' ∧ E e s₁) s := fun Γ p hΓ => by
  have := wp_un (o := sleepers s.gens) Γ t _ _ p (mutedAll s) (ok_muted s) (h Γ p hΓ)
  rw [un_muted] at this
  exact Sem.wp_mono M Γ t (fun a p' s' ⟨s₁, e, ok, q⟩ => ⟨s₁, e ▸ slept_of ok, q⟩) (fun a p' s' ⟨s₁, e, ok, q⟩ => ⟨s₁, e ▸ slept_of ok, q⟩) p s this
end Gw

/-! DyQB: one stretch of a generator's run, up to its next yield or its end. -/
namespace Gw
open PySem PyProof.Rows L2 GenW
open Sem (wp)

abbrev EndR := Result → Shared → Prop
abbrev EndS := Value → GenState → Shared → Prop
def At1 (R : EndR) (S : EndS) (e : End) (s' : Shared) : Prop := match e with
  | .ret r => R r s'
  | .susp v g l k c p fs => (g || fs.any Frame.guarded) = false ∧ S v (.suspended k l c p fs false) s'
/-- the code runs to a yield or to its end -/
def Seg1 (M : Model) (A : Around) (R : EndR) (S : EndS) (c : Code) (t : Sem PySem.Fin) (fs : List Frame) (s : Shared) : Prop :=
  ∀ Γ p, Γ.code = c → Γ.Woken A → ∃ e s', Runs M Γ p t fs s e s' ∧ At1 R S e s'
section
variable {M : Model} {A : Around} {R : EndR} {S : EndS} {c : Code} {fs : List Frame} {s : Shared} {K : Flow → Sem PySem.Fin} {H : Value → Sem PySem.Fin} {gd : Bool → Bool} {lv : List Value → List Value} {env : Env}
theorem s1_wrap {α : Type} {m : Sem α} {K : α → Sem PySem.Fin} {H : Value → Sem PySem.Fin} {gd : Bool → Bool} {lv : List Value → List Value}
    (h : wpAny M (A.over c fs) m (fun a s' => Seg1 M A R S c (K a) fs s') (fun x s' => Seg1 M A R S c (H x) fs s') s) : Seg1 M A R S c (m.wrap K H gd lv) fs s := by
  rintro Γ p rfl hΓ
  exact runs_wrap_of_wp K H gd lv m (h (Γ.over fs) p (hΓ.over fs)) (fun a p' s' h' => h' Γ p' rfl hΓ) fun x p' s' h' => h' Γ p' rfl hΓ
theorem s1_at {p' : Pos} {k : Unit → Sem PySem.Fin} (h : Seg1 M A R S c (k ()) fs s) : Seg1 M A R S c (.at p' k) fs s :=
  s1_wrap (m := standAt p') (K := k) (H := .raise) (gd := id) (lv := id) (wpAny_standAt h)
theorem s1_point {l : List Value} {k : Unit → Sem PySem.Fin} (h : Seg1 M A R S c (k ()) fs s) : Seg1 M A R S c (.point l k) fs s :=
  s1_wrap (m := point) (K := k) (H := .raise) (gd := id) (lv := fun _ => l) (wpAny_point h)
theorem s1_call {c' : Code} {h : Option Value} {g : Bool} {l : List Value} {k : Result → Sem PySem.Fin} (hc : ∀ p, Seg1 M A R S c' (M.den c') (.ret k h g l c p [] :: fs) s) : Seg1 M A R S c (.call c' h g l k) fs s := by
  rintro Γ p rfl hΓ
  obtain ⟨e, s', hr, he⟩ := hc p (Γ.goto c') p rfl (hΓ.goto c')
  exact ⟨e, s', runs_call_seg hr, he⟩
theorem s1_leaf {k : Result → Sem PySem.Fin} {h : Option Value} {g : Bool} {l : List Value} {c₁ : Code} {p₁ : Pos} {kp : List Value} (r : Result) (hk : Seg1 M A R S c₁ (k r) fs s) : Seg1 M A R S c (leafOf r) (.ret k h g l c₁ p₁ kp :: fs) s := by
  rintro Γ p rfl hΓ
  obtain ⟨e, s', hr, he⟩ := hk (Γ.goto c₁) p₁ rfl (hΓ.goto c₁)
  exact ⟨e, s', Runs.pop r hr, he⟩
theorem s1_again {c' : Code} (hq : c'.quiet = true) (hc : Seg1 M A R S c' (M.den c') fs s) : Seg1 M A R S c (.pure (.again c')) fs s := by
  rintro Γ p rfl hΓ
  obtain ⟨e, s', hr, he⟩ := hc (Γ.goto c') p rfl (hΓ.goto c')
  exact ⟨e, s', Runs.head (c₁ := c') (fun _ _ x => .again hq x) hr, he⟩
theorem s1_end (r : Result) (h : R r s) : Seg1 M A R S c (leafOf r) [] s := by
  rintro Γ p rfl _
  exact ⟨.ret r, s, Runs.leaf r, h⟩
theorem s1_yield {v : Value} {l : List Value} {k : Resume → Sem PySem.Fin} {g : Bool} (hfs : splitAtGen fs = none) (hg : g = false) (hfg : fs.any Frame.guarded = false) (h : ∀ p, S v (.suspended k l c p fs false) s) : Seg1 M A R S c (.yield v g l k) fs s := by
  rintro Γ p rfl _
  exact ⟨_, s, Runs.yield' fs hfs, by simp [hg, hfg], h p⟩
/-- the statement yield e -/
theorem s1_Yield {e : Expr} {yp pos : Pos} (hfs : splitAtGen fs = none) (hgd : gd false = false) (hfg : fs.any Frame.guarded = false) (hco : env.scope.isCoroutine = false) (hi : interactive env = false)
    (h : wpAny M (A.over c fs) (eval e env) (fun v s' => ∀ (k : Resume → Sem PySem.Fin) l p, (∀ x : Value, (∀ a, x ≠ .ref a) → ∀ s'', Seg1 M A R S c (K .next) fs s'' → Seg1 M A R S c (k (.send x)) fs s'') →
        (∀ (R' : EndR) (S' : EndS) (x : Value), (∀ a, x ≠ .ref a) → ∀ s'', Seg1 M A R' S' c (K .next) fs s'' → Seg1 M A R' S' c (k (.send x)) fs s'') → S v (.suspended k l c p fs false) s')
      (fun x s' => Seg1 M A R S c (H x) fs s') s) : Seg1 M A R S c ((exec (.Expr (.Yield (some e) yp) pos) env).wrap K H gd lv) fs s := by
  rw [exec_Expr env _ pos hi rfl]
  show Seg1 M A R S c (.at pos fun _ => ((eval e env >>= fun v => (standAt yp >>= fun _ => yieldOut env v)) >>= fun x => dropValue (.Yield (some e) yp) pos x).wrap K H gd lv) fs s
  have hy : ∀ v, yieldOut env v = yieldValue v := fun v => by simp only [yieldOut, hco, Bool.false_eq_true, if_false]
  simp only [hy]
  refine s1_at ?_
  rw [Sem.bind_eq_wrap', Sem.bind_eq_wrap', Sem.wrap_wrap, Sem.wrap_wrap]
  refine s1_wrap (wpAny_mono h (fun v s' h' => ?_) fun _ _ x => x)
  refine s1_at (s1_yield hfs hgd hfg fun p => ?_)
  refine h' _ _ p (fun x hx s'' q => ?_) fun R' S' x hx s'' q => ?_
  · cases x <;> first | exact q | exact (hx _ rfl).elim
  · cases x <;> first | exact q | exact (hx _ rfl).elim
theorem s1_func {prog : Program} {w : World} {body : List Stmt}
    (h : Seg1 (model prog w) A R S (.func body env) ((execs body env).wrap (fun f => .pure (.done (.ret (match f with | .ret v => v | _ => .none)))) (fun e => (leaving env e).wrap (fun _ => .raise e) .raise id id) id id) fs s) :
    Seg1 (model prog w) A R S (.func body env) ((model prog w).den (.func body env)) fs s := by
  show Seg1 _ A R S (.func body env) (.point [] fun _ => ((execs body env).onRaise (leaving env)) >>= _) fs s
  refine s1_point ?_
  rw [Sem.onRaise_eq_wrap, Sem.bind_eq_wrap', Sem.wrap_wrap]
  rw [Sem.wrap_congr (execs body env) _ _ (K' := fun f => .pure (.done (.ret (match f with | .ret v => v | _ => .none))))
    (H' := fun e => (leaving env e).wrap (fun _ => .raise e) .raise id id) (fun f => by cases f <;> rfl)
    (fun e => by rw [Sem.bind_eq_wrap, Sem.wrap_wrap]; rfl)]
  exact h
end

/-- a generator's state goes, woken by next -/
def Goes1 (M : Model) (A : Around) (R : EndR) (S : EndS) (gs : GenState) (s : Shared) : Prop := match gs with
  | .fresh c => Seg1 M A R S c (M.den c) [] s
  | .suspended k _ c _ fs _ => Seg1 M A R S c (k (.send .none)) fs s
  | _ => False
section
variable {M : Model} {A : Around} {R : EndR} {S : EndS} {E : Value → Shared → Prop} {s : Shared} {g : Nat} {gs : GenState} {l : List Value}
theorem wpAny_resume1 {α : Type} {k : GenResult → Sem α} {Q : α → Shared → Prop} (hg : s.gens[g]? = some gs) (hgo : Goes1 M A R S gs (s.setGen g .running))
    (hR : ∀ x s₁, R x s₁ → wpAny M A (k (End.ret x).result) Q E (s₁.setGen g .finished))
    (hS : ∀ v gs' s₁, S v gs' s₁ → gs'.bare = true → wpAny M A (k (.yielded v)) Q E (s₁.setGen g gs')) : wpAny M A (.resume g (.send .none) l k) Q E s := by
  intro Γ p hΓ
  rw [Sem.wp_resume]
  have hB : ∀ c, (Γ.wake c p).Woken A := fun c => hΓ.wake c p
  have fin : ∀ e₁ s₁, At1 R S e₁ s₁ → e₁.quiet = true ∧ wp M Γ (k e₁.result) (fun a _ s' => Q a s') (fun e _ s' => E e s') p (s₁.setGen g e₁.genState) := by
    intro e₁ s₁ he
    cases e₁ with
    | ret x => exact ⟨rfl, hR x s₁ he Γ p hΓ⟩
    | susp v g₀ l₀ k₀ c₀ p₀ fs₀ =>
      obtain ⟨h1, h2⟩ := he
      refine ⟨by show (!(g₀ || fs₀.any Frame.guarded)) = true; rw [h1]; rfl, ?_⟩
      have e : (End.susp v g₀ l₀ k₀ c₀ p₀ fs₀).genState = .suspended k₀ l₀ c₀ p₀ fs₀ false := by
        show GenState.suspended k₀ l₀ c₀ p₀ fs₀ (g₀ || fs₀.any Frame.guarded) = _
        rw [h1]
      rw [e]
      exact hS v _ s₁ h2 rfl Γ p hΓ
  cases gs with
  | fresh c =>
    obtain ⟨e₁, s₁, hr, he⟩ := hgo (Γ.wake c p) p rfl (hB c)
    exact ⟨_, _, by unfold Wakes; rw [hg]; exact ⟨e₁, s₁, hr, (fin e₁ s₁ he).1, rfl, rfl⟩, (fin e₁ s₁ he).2⟩
  | suspended k₀ l₀ c₀ p₀ fs₀ cl =>
    obtain ⟨e₁, s₁, hr, he⟩ := hgo (Γ.wake c₀ p) p₀ rfl (hB c₀)
    exact ⟨_, _, by unfold Wakes; rw [hg]; exact ⟨e₁, s₁, hr, (fin e₁ s₁ he).1, rfl, rfl⟩, (fin e₁ s₁ he).2⟩
  | running => exact hgo.elim
  | finished => exact hgo.elim
end
section
variable {P : Program} {w : World} {A : Around} {E : Value → Shared → Prop} {s : Shared} {a : Addr} {g : Nat}
/-- the exception by which a generator says that it has ended -/
theorem says_end {α β : Type} {k : β → Sem α} {Q : α → Shared → Prop} (hh : A.handled = none)
    (hE : ∀ v h, (∃ o, h.get? v = some o ∧ o.cls = .type "StopIteration") → (∀ b o, s.heap.get? b = some o → h.get? b = some o) → E (.ref v) { s with heap := h }) :
    wpAny (model P w) A (newExc (.type "StopIteration") [] >>= fun v => raiseNew v >>= k) Q E s := by
  simp only [newExc, newTuple, raiseNew]
  refine wpAny_bind (wpAny_bind (wpAny_newObj_type (wpAny_bind (m := firstArgMember _ _) (wpAny_of_eq (a := Value.none) (by first | rfl | (simp only [firstArgMember]; rfl)) (wpAny_newObj_type (wpAny_bind (wpAny_bind (wpAny_handled ?_))) (by size_fits)))) (by size_fits)))
  rw [hh]
  exact wpAny_throw (hE _ _ ⟨_, Heap.get?_push_size _ rfl, rfl⟩ fun b o q => Heap.get?_push_of_some _ (Heap.get?_push_of_some _ q))
/-- another exception leaves it as it is -/
theorem lets_out {α : Type} {e : Value} {Q : α → Shared → Prop} (hg : s.heap.IsGen a g) (hn : NotStop (model P w) e s.heap) (hE : E e s) : wpAny (model P w) A (Builtin.Generator.genLeft (.ref a) e) Q E s := by
  obtain ⟨o, _, _, ho, _⟩ := hg
  unfold Builtin.Generator.genLeft Builtin.Generator.madeByALambda Builtin.Generator.genEscaped
  have ask : ∀ {β : Type} {f : Bool → Sem β} {Q : β → Shared → Prop}, wpAny (model P w) A (f false) Q E s → wpAny (model P w) A (isInstance e (.type "StopIteration") >>= f) Q E s := fun h => wpAny_bind (hn _ _ _ _ rfl h)
  refine wpAny_bind (wpAny_bind (wpAny_load (o := o) ho (wpAny_pure (ask ?_))))
  simp only [Bool.and_false, if_neg Bool.false_ne_true]
  first
    | exact ask (wpAny_throw hE)
    | exact wpAny_bind (wpAny_pure (ask (wpAny_throw hE)))
/-- next(g) in a loop: a value, the end, or an exception -/
theorem next_gen1 {gs : GenState} {F : Shared → Prop} {Er : Value → Shared → Prop} {S : EndS} {Q : Option Value → Shared → Prop} (hh : A.handled = none) (hl : s.heap.NoLimit) (hd : A.depth < recursionLimit) (hg : s.heap.IsGen a g) (hgs : s.gens[g]? = some gs)
    (go : Goes1 (model P w) A.in1 (fun r s₁ => ((r = .ok (.ret .none) ∨ r = .ok .next) ∧ F s₁) ∨ ∃ e, r = .error e ∧ Er e s₁) S gs (s.setGen g .running)) (hS : ∀ v s₁ gs', gs'.bare = true → S v gs' s₁ → Q (some v) (s₁.setGen g gs'))
    (hF : ∀ s₁, F s₁ → ∀ h', (∀ b o, s₁.heap.get? b = some o → h'.get? b = some o) → Q none { s₁.setGen g .finished with heap := h' }) (hE : ∀ e s₁, Er e s₁ → s₁.heap.IsGen a g ∧ NotStop (model P w) e s₁.heap ∧ E e (s₁.setGen g .finished)) : wpAny (model P w) A (pyNext (.ref a)) Q E s := by
  unfold pyNext
  refine wpAny_bind (wpAny_attempt (wpAny_callSpecial?_slot (name := Str.ofString "__next__") hg.typeIs slot_gen_next (wpAny_call_entry slot_gen_next hg.typeIs entry_gen_next ?_ (args_gen_next _))))
  change wpAny _ A.in1 (Builtin.Generator.genWake (Value.ref a) (Resume.send Value.none)) _ _ s
  unfold Builtin.Generator.genWake
  refine wpAny_bind (wpAny_holding (wpAny_genNumber hg (wpAny_bind (wpAny_genState hgs ?_))))
  have over : ∀ r : Result, (r = .ok (.ret .none) ∨ r = .ok .next) → End.result (.ret r) = .returned .none := fun r hr => by rcases hr with rfl | rfl <;> rfl
  cases gs <;> first
    | exact go.elim
    | (refine wpAny_bind (wpAny_roomToWake hl hd (show wpAny _ A.in1 (.resume g (.send .none) [] _) _ _ s from wpAny_resume1 hgs go (fun x s₁ hx => ?_) fun v gs' s₁ hv hb => wpAny_pure ⟨v, rfl, wpAny_pure (hS v s₁ gs' hb hv)⟩))
       rcases hx with ⟨hr, hp⟩ | ⟨e, rfl, he⟩
       · have hr := over x hr
         first | rw [hr] | simp only [hr]
         refine says_end (A := A.in1) (s := s₁.setGen g .finished) hh fun v h ho hk => ?_
         exact wpAny_bind (wpAny_isInstance (T := "StopIteration") (b := true) ho isSubtype_stop (wpAny_pure (hF s₁ hp h hk)))
       · obtain ⟨q1, q2, q3⟩ := hE e s₁ he
         exact lets_out (s := s₁.setGen g .finished) q1 q2 (wpAny_bind (q2 _ _ _ _ rfl (wpAny_throw q3))))
end
end Gw

/-! DyQC: a generator's run stretch by stretch: its frame sleeps between them. -/
namespace Gw
open PySem PySem.Spec PyProof.Rows L2 GenW Dv

/-! ### a heap's beginning -/
def cutH (h : Heap) (L : Nat) : Heap := { h with objs := h.objs.extract 0 L }
theorem cutH_size {h : Heap} {L : Nat} (hl : L ≤ h.objs.size) : (cutH h L).objs.size = L := by
  unfold cutH; simp; omega
theorem cutH_at {h : Heap} {L b : Nat} (hb : b < L) : (cutH h L).get? b = h.get? b := by
  have e : (h.objs.extract 0 L)[b]? = h.objs[b]? := by
    rw [Array.getElem?_extract]
    by_cases hs : b < h.objs.size
    · rw [if_pos (by omega)]; simp
    · rw [if_neg (by omega)]
      exact (Array.getElem?_eq_none (by omega)).symm
  unfold cutH Heap.get?
  simp only [e]
theorem cutH_of {h : Heap} {L b : Nat} {o : Obj} (e : (cutH h L).get? b = some o) : b < L ∧ h.get? b = some o := by
  have sz : (cutH h L).objs.size ≤ L := by unfold cutH; simp; omega
  have hb : b < L := Nat.lt_of_lt_of_le (Heap.lt_size e) sz
  rw [cutH_at hb] at e
  exact ⟨hb, e⟩

/-! ### the frame -/
structure GF where
  P : Program
  w : World
  K : PySem.W.Frag
  mg : Str → Option Value
  base : Heap
  N : List Str
  qual : Str
  scope : Scope
  f : Addr
  cd : Value
  A : Around
  outer : List Env
  L : Nat
def GF.env (F : GF) : Env := envOfC F.qual F.scope F.L F.f F.cd
/-- what is pinned is nobody's behind an exception too -/
def EpN (E : XK) (pn : List (Addr × Obj)) : XK := fun cls d H' => E cls d H' ∧ ∀ p ∈ pn, H' p.1 = none
def GF.cx (F : GF) (s : Shared) (H : Hp) (E : XK) (pn : List (Addr × Obj)) : Cx := gcxOf F.P F.w F.K F.mg F.base F.N F.qual F.scope F.f F.cd F.A F.outer s H (EpN E pn) pn
theorem cx_imp {P : Program} {w : World} {outer : List Env} {H : Hp} {s : Shared} {E E' : XK} {e : Value} {s' : Shared} (h : ∀ c d H', E c d H' → E' c d H') (c : CX P w outer H s E e s') : CX P w outer H s E' e s' := by
  obtain ⟨a, B, H', cls, d, x1, x2, x3, x4, x5, x6, x7, x8⟩ := c
  exact ⟨a, B, H', cls, d, x1, x2, x3, x4, x5, x6, x7, h _ _ _ x8⟩
theorem takesGF {F : GF} {s : Shared} {H : Hp} {E : XK} {pn : List (Addr × Obj)} : Takes (F.cx s H E pn) (fun cls d _ H => E cls d H) := fun u s' x => by
  obtain ⟨a, B, sI, pins, σ, H1, cls, d, e, I, nb, up, sky, na, os, ag, w⟩ := x
  exact takes_gcx u s' ⟨a, B, sI, pins, σ, H1, cls, d, e, I, nb, up, sky, na, os, ag, w, fun p hp => (I.pin p (List.mem_append_left _ hp)).2.1⟩
abbrev GF.T (F : GF) : Tx := ⟨F.K, F.mg⟩
abbrev Wb (H G : Hp) : Bs := ⟨H, G, [], []⟩
theorem GF.cx_env {F : GF} {s : Shared} {H : Hp} {E : XK} {pn : List (Addr × Obj)} (hs : s.heap.objs.size = F.L) : (F.cx s H E pn).env = F.env := by
  show envOfC _ _ s.heap.objs.size _ _ = _
  rw [hs]; rfl
theorem GF.cx_A {F : GF} {s : Shared} {H : Hp} {E : XK} {pn : List (Addr × Obj)} (hs : s.heap.objs.size = F.L) : (F.cx s H E pn).A = F.A.deeper F.env := by
  show F.A.deeper (envOfC _ _ s.heap.objs.size _ _) = _
  rw [hs]; rfl
/-- amid a stretch that began at s, Hw, Gw -/
structure In (F : GF) (s : Shared) (Hw Gx : Hp) (E : XK) (pn ip : List (Addr × Obj)) (env : DEnv) (σ : L2.St) (H G : Hp) (s1 : Shared) : Prop where
  sz : s.heap.objs.size = F.L
  inv : Inv (F.cx s Hw E pn) ip σ H s1
  rd : RD F.T (Wb Hw Gx) [] G H σ env []
/-- what the consumer learns at a stretch's end -/
structure Post (F : GF) (s : Shared) (Hw Gx : Hp) (pn : List (Addr × Obj)) (H G : Hp) (s1 : Shared) : Prop where
  os : s1.os = s.os
  bare : AllBare s1.gens
  base : Un (frs F.outer) [] Hw H s.heap s1.heap
  hok : HOk F.P F.w H s1.heap
  pin : ∀ p ∈ pn, s1.heap.get? p.1 = some p.2 ∧ H p.1 = none
  ext : Ext [] Gx Hw [] G H
  gh : Same G H
section
variable {F : GF} {s s1 : Shared} {Hw Gx H G : Hp} {E : XK} {pn ip : List (Addr × Obj)} {env : DEnv} {σ : L2.St}
theorem In.post (I : In F s Hw Gx E pn ip env σ H G s1) : Post F s Hw Gx pn H G s1 :=
  ⟨I.inv.os, I.inv.bare, I.inv.base, I.inv.hok, fun p hp => (let z := I.inv.pin p (List.mem_append_left _ hp); ⟨z.1, z.2.1⟩), I.rd.ext, I.rd.gh⟩
end
/-- no list of its own stands in a slot -/
def noOwns (env : DEnv) : Bool := env.all fun s => match s with
  | .own _ => false
  | _ => true
/-- the frame asleep: what it needs to go on -/
structure Priv (F : GF) (ip : List (Addr × Obj)) (σ : L2.St) (env : DEnv) (G : Hp) (oL : Obj) : Prop where
  loc : ∀ h : Heap, h.get? F.L = some oL → ∃ m, h.Ns F.L m ∧ ∀ (i : Nat) (x : Str) (v : V), F.N[i]? = some x → σ[i]? = some (some v) → Vis F.scope x → ∃ u, RelV v u ∧ Look F.env h m x u
  len : σ.length = F.N.length
  elen : env.length = σ.length
  own : noOwns env = true
  slot : ∀ (i : Nat) (d : D), env[i]? = some (.v d) → ∃ v : V, σ[i]? = some (some v) ∧ Rep F.T [] G v d
  ip : ∀ p ∈ ip, F.L < p.1 ∧ ∀ v, p.2.data ≠ .cell v
/-- what a stretch ends with -/
def retR (F : GF) (last : Bool) (fin : Option Exn) (s : Shared) (Hw Gx : Hp) (E : XK) (pn : List (Addr × Obj)) : EndR := fun r s1 =>
  (last = true ∧ fin = none ∧ (r = .ok (.ret .none) ∨ r = .ok .next) ∧ ∃ H G, Post F s Hw Gx pn H G s1) ∨
  (∃ e, r = .error e ∧ CX F.P F.w F.outer Hw s (EpN E pn) e s1 ∧ ∀ p ∈ pn, s1.heap.get? p.1 = some p.2)
abbrev NextP := Code → Sem PySem.Fin → List Frame → List (Addr × Obj) → DEnv → Hp → Prop
def yS (F : GF) (o : Option (D × NextP)) (s : Shared) (Hw Gx : Hp) (pn : List (Addr × Obj)) : EndS := fun v gs s1 => ∃ d nx, o = some (d, nx) ∧ ∃ (H G : Hp) (x : V) (ip : List (Addr × Obj)) (σ : L2.St) (env : DEnv) (oL : Obj) (k : Resume → Sem PySem.Fin) (l : List Value) (c : Code) (p : Pos) (fs : List Frame),
  Post F s Hw Gx pn H G s1 ∧ RelV x v ∧ Rep F.T [] G x d ∧ Priv F ip σ env G oL ∧ (∀ q ∈ (F.L, oL) :: ip, s1.heap.get? q.1 = some q.2 ∧ H q.1 = none ∧ ∀ p ∈ pn, p.1 ≠ q.1) ∧ gs = .suspended k l c p fs false ∧ nx c (k (.send .none)) fs ip env G
def ExcOk (F : GF) (fin : Option Exn) (Hw Gx : Hp) (E : XK) : Prop := ∀ x, fin = some x → ∀ cls dd G' H', Ext [] Gx Hw [] G' H' → Same G' H' → ExR F.T [] G' H' cls dd x → E cls dd H'
def step (F : GF) (fin : Option Exn) (last : Bool) (o : Option (D × NextP)) : NextP := fun c t fs ip env Gm => ∀ (s : Shared) (Hw Gx : Hp) (E : XK) (pn : List (Addr × Obj)) (σ : L2.St) (H G : Hp) (s1 : Shared),
  In F s Hw Gx E pn ip env σ H G s1 → (∀ p ∈ pn, ∀ q ∈ ip, p.1 ≠ q.1) → (last = true → ExcOk F fin Hw Gx E) → Same Gm G → Seg1 (model F.P F.w) F.A (retR F last fin s Hw Gx E pn) (yS F o s Hw Gx pn) c t fs s1
/-- from here on the generator hands out rest, then it ends -/
def GoesD (F : GF) (fin : Option Exn) : List D → NextP
  | [] => step F fin true none
  | d :: r => step F fin false (some (d, GoesD F fin r))
theorem goes_step {F : GF} {fin : Option Exn} (r : List D) : ∃ last o, GoesD F fin r = step F fin last o ∧ (r = [] → last = true) := by
  cases r with
  | nil => exact ⟨true, none, rfl, fun _ => rfl⟩
  | cons d r => exact ⟨false, _, rfl, fun h => by cases h⟩

/-! ### a generator's statements -/
abbrev GM := DEnv → Option (List D × Out Fl × DEnv)
/-- where the code stands -/
structure GCr (F : GF) (ip : List (Addr × Obj)) (c : Code) (fs : List Frame) (gd : Bool → Bool) : Prop where
  ipL : ∀ p ∈ ip, F.L < p.1
  over : F.A.over c fs = F.A.deeper F.env
  split : splitAtGen fs = none
  guard : fs.any Frame.guarded = false
  gd : gd false = false
/-- what becomes of an exception -/
def JOk (F : GF) (c : Code) (fs : List Frame) (J : Value → Sem PySem.Fin) : Prop := ∀ (R : EndR) (S : EndS) (s : Shared) (Hw : Hp) (E : XK) (pn : List (Addr × Obj)) (e : Value) (s1 : Shared), s.heap.objs.size = F.L →
  (∀ e s1, CX F.P F.w F.outer Hw s (EpN E pn) e s1 → (∀ p ∈ pn, s1.heap.get? p.1 = some p.2) → R (.error e) s1) → (F.cx s Hw E pn).xe e s1 → Seg1 (model F.P F.w) F.A R S c (J e) fs s1
def Kont (F : GF) (fin : Option Exn) (r : List D) (K : Flow → Sem PySem.Fin) (c : Code) (fs : List Frame) (ip : List (Addr × Obj)) (Gm : Hp) : Out Fl → DEnv → Prop
  | .val .nx, env => GoesD F fin r c (K .next) fs ip env Gm
  | .val .brk, env => GoesD F fin r c (K .brk) fs ip env Gm
  | .val .ct, env => GoesD F fin r c (K .cont) fs ip env Gm
  | .val (.ret _), _ => False
  | .exc x, _ => r = [] ∧ fin = some x
def goSt (F : GF) (ex : Sem Flow) (m : GM) : Prop := ∀ (fin : Option Exn) (r : List D) (c : Code) (fs : List Frame) (K : Flow → Sem PySem.Fin) (J : Value → Sem PySem.Fin) (gd : Bool → Bool) (lv : List Value → List Value) (ip : List (Addr × Obj)) (env : DEnv) (Gm : Hp),
  GCr F ip c fs gd → JOk F c fs J → ∀ ys out env', m env = some (ys, out, env') → Kont F fin r K c fs ip Gm out env' → GoesD F fin (ys ++ r) c (ex.wrap K J gd lv) fs ip env Gm
structure GD1 (F : GF) (st : Stmt) (m : GM) : Prop where
  run : goSt F (exec st F.env) m
structure GDs (F : GF) (sts : List Stmt) (m : GM) : Prop where
  run : goSt F (execs sts F.env) m
/-- an ordinary statement -/
def gPlain (a : DSt) : GM := fun env => match a env [] with
  | some (.val (.ret _), _, _) => none
  | some (o, env', []) => some ([], o, env')
  | _ => none
section
variable {F : GF}
theorem JOk.retR {c : Code} {fs : List Frame} {J : Value → Sem PySem.Fin} (h : JOk F c fs J) {last : Bool} {fin : Option Exn} {s : Shared} {Hw Gx : Hp} {E : XK} {pn : List (Addr × Obj)} {S : EndS} {e : Value} {s1 : Shared} (hs : s.heap.objs.size = F.L) (hx : (F.cx s Hw E pn).xe e s1) :
    Seg1 (model F.P F.w) F.A (Gw.retR F last fin s Hw Gx E pn) S c (J e) fs s1 :=
  h _ S s Hw E pn e s1 hs (fun e s1 q1 q2 => .inr ⟨e, rfl, q1, q2⟩) hx
/-- code that hands out nothing, by what it does in any stretch -/
theorem goes_plain {α : Type} {t : Sem α} {K : α → Sem PySem.Fin} {J : Value → Sem PySem.Fin} {gd : Bool → Bool} {lv : List Value → List Value} {fin : Option Exn} {r : List D} {c : Code} {fs : List Frame} {ip : List (Addr × Obj)} {env : DEnv} {Gm : Hp} (g : GCr F ip c fs gd) (j : JOk F c fs J)
    (h : ∀ (s : Shared) (Hw Gx : Hp) (E : XK) (pn : List (Addr × Obj)) (σ : L2.St) (H G : Hp) (s1 : Shared), In F s Hw Gx E pn ip env σ H G s1 → (∀ p ∈ pn, ∀ q ∈ ip, p.1 ≠ q.1) → (r = [] → ExcOk F fin Hw Gx E) → Same Gm G →
      wpAny (model F.P F.w) (F.A.deeper F.env) t (fun a s2 => ∃ ip' env' σ' H' G', In F s Hw Gx E pn ip' env' σ' H' G' s2 ∧ (∀ p ∈ pn, ∀ q ∈ ip', p.1 ≠ q.1) ∧ Same G G' ∧ GoesD F fin r c (K a) fs ip' env' G') (F.cx s Hw E pn).xe s1) : GoesD F fin r c (t.wrap K J gd lv) fs ip env Gm := by
  obtain ⟨last, o, e, hl⟩ := goes_step (F := F) (fin := fin) r
  rw [e] at h ⊢
  intro s Hw Gx E pn σ H G s1 I hp hx hm
  refine s1_wrap ?_
  rw [g.over]
  refine wpAny_mono (h s Hw Gx E pn σ H G s1 I hp (fun z => hx (hl z)) hm) (fun a s2 hq => ?_) fun x s2 hq => j.retR I.sz hq
  obtain ⟨ip', env', σ', H', G', I', hp', _, go⟩ := hq
  exact go s Hw Gx E pn σ' H' G' s2 I' hp' hx fun _ _ z => z
theorem goes_mono {fin : Option Exn} {r : List D} {c : Code} {t : Sem PySem.Fin} {fs : List Frame} {ip : List (Addr × Obj)} {env : DEnv} {Gm Gm' : Hp} (h : GoesD F fin r c t fs ip env Gm) (m : Same Gm Gm') : GoesD F fin r c t fs ip env Gm' := by
  obtain ⟨last, o, e, _⟩ := goes_step (F := F) (fin := fin) r
  rw [e] at h ⊢
  exact fun s Hw Gx E pn σ H G s1 I hp hx hm => h s Hw Gx E pn σ H G s1 I hp hx (m.trans hm)
theorem Kont.mono {fin : Option Exn} {r : List D} {K : Flow → Sem PySem.Fin} {c : Code} {fs : List Frame} {ip : List (Addr × Obj)} {env : DEnv} {Gm Gm' : Hp} {out : Out Fl} (h : Kont F fin r K c fs ip Gm out env) (m : Same Gm Gm') : Kont F fin r K c fs ip Gm' out env := by
  match out, h with
  | .val .nx, h => exact goes_mono h m
  | .val .brk, h => exact goes_mono h m
  | .val .ct, h => exact goes_mono h m
  | .exc x, h => exact h
theorem rd_nil {B : Bs} {T : Tx} {ρ : List Addr} {G H : Hp} {σ : L2.St} {env : DEnv} (R : RD T B ρ G H σ env []) : ρ = [] := List.eq_nil_of_length_eq_zero R.st.len
theorem gd_plainX {ex : Sem Flow} {a : DSt} (h : ∀ (s : Shared) (Hw Gx : Hp) (E : XK) (pn : List (Addr × Obj)), s.heap.objs.size = F.L → ∀ (pins : List (Addr × Obj)) (s1 : Shared) (σ : L2.St) (H : Hp) (D : Ends), Inv (F.cx s Hw E pn) pins σ H s1 → rdS F.T (Wb Hw Gx) (fun cls d _ H => E cls d H) a D σ H →
    wpAny (model F.P F.w) (F.A.deeper F.env) ex (SP (F.cx s Hw E pn) pins D) (F.cx s Hw E pn).xe s1) : goSt F ex (gPlain a) := by
  intro fin r c fs K J gd lv ip env Gm g j ys out env' hm k
  unfold gPlain at hm
  split at hm
  · cases hm
  · rename_i o e' hno ha
    cases hm
    rw [List.nil_append]
    refine goes_plain g j fun s Hw Gx E pn σ H G s1 I hp hx hmm => ?_
    have q := h s Hw Gx E pn I.sz ip s1 σ H { nx := fun σ' H' => out = .val .nx ∧ ∃ G', RD F.T (Wb Hw Gx) [] G' H' σ' env' [] ∧ Same G G', bk := fun σ' H' => out = .val .brk ∧ ∃ G', RD F.T (Wb Hw Gx) [] G' H' σ' env' [] ∧ Same G G', ct := fun σ' H' => out = .val .ct ∧ ∃ G', RD F.T (Wb Hw Gx) [] G' H' σ' env' [] ∧ Same G G', rt := fun v H' => False } I.inv ⟨[], G, env, [], I.rd, ?_⟩
    · refine wpAny_mono q (fun f s2 hf => ?_) fun _ _ z => z
      cases f with
      | next => obtain ⟨σ', H', I', rfl, G', R', sg⟩ := hf; exact ⟨ip, env', σ', H', G', ⟨I.sz, I', R'⟩, hp, sg, goes_mono k (hmm.trans sg)⟩
      | brk => obtain ⟨σ', H', I', rfl, G', R', sg⟩ := hf; exact ⟨ip, env', σ', H', G', ⟨I.sz, I', R'⟩, hp, sg, goes_mono k (hmm.trans sg)⟩
      | cont => obtain ⟨σ', H', I', rfl, G', R', sg⟩ := hf; exact ⟨ip, env', σ', H', G', ⟨I.sz, I', R'⟩, hp, sg, goes_mono k (hmm.trans sg)⟩
      | ret u => obtain ⟨v, σ', H', I', _, z⟩ := hf; exact z.elim
    · rw [ha]
      cases out with
      | val f =>
        cases f with
        | nx => intro σ' ρ' G' H' sg _ R'; have := rd_nil R'; subst this; exact ⟨rfl, G', R', sg⟩
        | brk => intro σ' ρ' G' H' sg _ R'; have := rd_nil R'; subst this; exact ⟨rfl, G', R', sg⟩
        | ct => intro σ' ρ' G' H' sg _ R'; have := rd_nil R'; subst this; exact ⟨rfl, G', R', sg⟩
        | ret d => exact (hno _ rfl).elim
      | exc x =>
        obtain ⟨rfl, hf⟩ := k
        intro σ' ρ' G' H' cls dd _ _ R' hx'
        have := rd_nil R'; subst this
        exact hx rfl x hf cls dd G' H' R'.ext R'.gh hx'
  · cases hm
theorem gd_plain {st : Stmt} {a : DSt} (h : ∀ (s : Shared) (Hw Gx : Hp) (E : XK) (pn : List (Addr × Obj)), s.heap.objs.size = F.L → DS (F.cx s Hw E pn) (Wb Hw Gx) (fun cls d _ H => E cls d H) st a) : GD1 F st (gPlain a) := by
  refine ⟨gd_plainX fun s Hw Gx E pn hs pins s1 σ H D I q => ?_⟩
  have := (h s Hw Gx E pn hs).run.run pins s1 σ H D I q
  rw [GF.cx_env hs, GF.cx_A hs] at this
  exact this
/-! ### in a row -/
def gSeq (a b : GM) : GM := fun env => match a env with
  | some (ys, .val .nx, e1) => match b e1 with
    | some (zs, o, e2) => some (ys ++ zs, o, e2)
    | none => none
  | r => r
theorem gds_cons {st : Stmt} {rest : List Stmt} {a b : GM} (h : GD1 F st a) (h2 : GDs F rest b) : GDs F (st :: rest) (gSeq a b) := by
  refine ⟨fun fin r c fs K J gd lv ip env Gm g j ys out env' hm k => ?_⟩
  rw [execs_cons_wrap]
  unfold gSeq at hm
  split at hm
  · rename_i ys1 e1 ha
    split at hm
    · rename_i zs o e2 hb
      cases hm
      rw [List.append_assoc]
      exact h.run fin (zs ++ r) c fs _ J gd lv ip env Gm g j ys1 (.val .nx) e1 ha (h2.run fin r c fs K J gd lv ip e1 Gm g j zs _ _ hb k)
    · cases hm
  · rename_i hno
    refine h.run fin r c fs _ J gd lv ip env Gm g j ys out env' hm ?_
    cases out with
    | exc x => exact k
    | val f =>
      cases f with
      | nx => exact (hno _ _ hm).elim
      | brk => exact k
      | ct => exact k
      | ret d => exact k
theorem gds_one {st : Stmt} {a : GM} (h : GD1 F st a) : GDs F [st] a := by
  refine ⟨fun fin r c fs K J gd lv ip env Gm g j ys out env' hm k => ?_⟩
  rw [execs_cons_wrap]
  refine h.run fin r c fs _ J gd lv ip env Gm g j ys out env' hm ?_
  cases out with
  | exc x => exact k
  | val f => cases f <;> exact k
/-! ### a test -/
/-! ### yield -/
def gYield (m : DEx) : GM := fun env => match m env [] with
  | some (.val d, []) => if nobor d = true ∧ noOwns env = true then some ([hold d], .val .nx, env) else none
  | some (.exc x, []) => some ([], .exc x, env)
  | _ => none
theorem priv_of {s s1 : Shared} {Hw Gx H G : Hp} {E : XK} {pn ip : List (Addr × Obj)} {env : DEnv} {σ : L2.St} (I : In F s Hw Gx E pn ip env σ H G s1) (hcl : ∀ x, F.env.cells.lookup x = none) (hip : ∀ p ∈ ip, F.L < p.1) (own : noOwns env = true) :
    ∃ oL, Priv F ip σ env G oL ∧ s1.heap.get? F.L = some oL := by
  have e := GF.cx_env (F := F) (H := Hw) (E := E) (pn := pn) I.sz
  obtain ⟨m, hn, hl⟩ := I.inv.loc
  rw [e] at hn hl
  obtain ⟨oL, es, ep, ho, hd, hlk⟩ := id hn
  refine ⟨oL, ⟨fun h hh => ⟨m, ⟨oL, es, ep, hh, hd, hlk⟩, fun i x v e1 e2 e3 => ?_⟩, I.inv.len, I.rd.len, own, fun i d hd => ?_, fun p hp => ⟨hip p hp, ?_⟩⟩, ho⟩
  · obtain ⟨u, ru, q⟩ := hl i x v e1 e2 e3
    refine ⟨u, ru, ?_⟩
    rcases q with q | ⟨_, c, q, _⟩
    · exact .inl q
    · rw [hcl] at q; cases q
  · obtain ⟨v, e1, e2⟩ := I.rd.slot i _ hd
    exact ⟨v, e1, e2⟩
  · exact (I.inv.pin p (List.mem_append_right _ hp)).2.2.2.2
theorem gd_yield {ex : Expr} {m : DEx} {yp pos : Pos} (hcl : ∀ x, F.env.cells.lookup x = none) (hco : F.env.scope.isCoroutine = false) (hin : interactive F.env = false)
    (he : ∀ (s : Shared) (Hw Gx : Hp) (E : XK) (pn : List (Addr × Obj)), s.heap.objs.size = F.L → DE (F.cx s Hw E pn) (Wb Hw Gx) (fun cls d _ H => E cls d H) ex m) : GD1 F (.Expr (.Yield (some ex) yp) pos) (gYield m) := by
  refine ⟨fun fin r c fs K J gd lv ip env Gm g j ys out env' hm k => ?_⟩
  unfold gYield at hm
  split at hm
  · rename_i d hme
    split at hm
    · rename_i hok
      cases hm
      show step F fin false (some (hold d, GoesD F fin ([] ++ r))) c _ fs ip env Gm
      intro s Hw Gx E pn σ H G s1 I hp hx hmm
      refine s1_Yield g.split g.gd g.guard hco hin ?_
      rw [g.over]
      have q := (he s Hw Gx E pn I.sz).run.run ip s1 σ H (fun v H' => ∃ G', RD F.T (Wb Hw Gx) [] G' H' σ env [] ∧ Same G G' ∧ RepX F.T (Wb Hw Gx) [] G' H' σ env v d) I.inv ⟨[], G, env, [], I.rd, ?_⟩
      · rw [GF.cx_env I.sz, GF.cx_A I.sz] at q
        refine wpAny_mono q (fun v s2 hv kk l p _ hk => ?_) fun x s2 hq => j.retR I.sz hq
        obtain ⟨x, H', I', rv, G', R', sg, rx⟩ := hv
        obtain ⟨G2, sg2, R2, hx2⟩ := rx.hold R'
        have I2 : In F s Hw Gx E pn ip env σ H' G2 s2 := ⟨I.sz, I', R2⟩
        obtain ⟨oL, pv, hoL⟩ := priv_of I2 hcl g.ipL hok.2
        have eL : (F.cx s Hw E pn).env.locals = F.L := by rw [GF.cx_env I.sz]; rfl
        refine ⟨hold d, GoesD F fin r, rfl, H', G2, x, ip, σ, env, oL, kk, l, c, p, fs, I2.post, rv, hx2.rep (hold_nobor hok.1), pv, fun q hq => ?_, rfl, ?_⟩
        · rcases List.mem_cons.mp hq with rfl | hq
          · exact ⟨hoL, by rw [← eL]; exact I'.free, fun p hp' => by rw [← eL]; exact (I'.pin p (List.mem_append_left _ hp')).2.2.1⟩
          · have z := I'.pin q (List.mem_append_right _ hq)
            exact ⟨z.1, z.2.1, fun p hp' => hp p hp' q hq⟩
        · obtain ⟨last, o, e, _⟩ := goes_step (F := F) (fin := fin) r
          have k : GoesD F fin r c (K .next) fs ip env G2 := goes_mono (show GoesD F fin r c (K .next) fs ip env Gm from k) ((hmm.trans sg).trans sg2)
          rw [e] at k ⊢
          exact fun s Hw Gx E pn σ H G s1 I hp hx hm => hk _ _ .none (fun a z => by cases z) s1 (k s Hw Gx E pn σ H G s1 I hp hx hm)
      · rw [hme]
        intro ρ' G' H' sg _ R' v rx
        have := rd_nil R'; subst this
        exact ⟨G', R', sg, rx⟩
    · cases hm
  · rename_i x hme
    cases hm
    obtain ⟨rfl, hf⟩ := k
    show step F fin true none c _ fs ip env Gm
    intro s Hw Gx E pn σ H G s1 I hp hx hmm
    refine s1_Yield g.split g.gd g.guard hco hin ?_
    rw [g.over]
    have q := (he s Hw Gx E pn I.sz).run.run ip s1 σ H (fun _ _ => False) I.inv ⟨[], G, env, [], I.rd, ?_⟩
    · rw [GF.cx_env I.sz, GF.cx_A I.sz] at q
      exact wpAny_mono q (fun v s2 ⟨_, _, _, _, z⟩ => z.elim) fun x s2 hq => j.retR I.sz hq
    · rw [hme]
      intro ρ' G' H' cls dd _ _ R' hx'
      have := rd_nil R'; subst this
      exact hx rfl x hf cls dd G' H' R'.ext R'.gh hx'
  · cases hm
/-! ### for -/
def gForRun (tg : DTg) (body : GM) : List D → DEnv → Option (List D × Out Fl × DEnv)
  | [], env => some ([], .val .nx, env)
  | d :: ds, env => match tg env d with
    | none => none
    | some e1 => match body e1 with
      | some (ys, .val .nx, e2) => (gForRun tg body ds e2).map fun q => (ys ++ q.1, q.2)
      | some (ys, .val .ct, e2) => (gForRun tg body ds e2).map fun q => (ys ++ q.1, q.2)
      | some (ys, .val .brk, e2) => some (ys, .val .nx, e2)
      | r => r
def gFor (it : DEnv → Mu → Res (List D)) (tg : DTg) (body : GM) : GM := fun env => match it env [] with
  | some (.val ds, []) => gForRun tg body ds env
  | some (.exc x, []) => some ([], .exc x, env)
  | _ => none
theorem s1_bindw {M : Model} {A : Around} {R : EndR} {S : EndS} {c : Code} {fs : List Frame} {s : Shared} {α β : Type} {m : Sem α} {f : α → Sem β} {K : β → Sem PySem.Fin} {J : Value → Sem PySem.Fin} {gd : Bool → Bool} {lv : List Value → List Value}
    (h : wpAny M (A.over c fs) m (fun a s' => Seg1 M A R S c ((f a).wrap K J gd lv) fs s') (fun x s' => Seg1 M A R S c (J x) fs s') s) : Seg1 M A R S c ((m >>= f).wrap K J gd lv) fs s := by
  rw [Sem.bind_eq_wrap' m f, Sem.wrap_wrap]
  exact s1_wrap h
/-- a loop's code above where it came from -/
abbrev loopFs (F : GF) (K : Flow → Sem PySem.Fin) (J : Value → Sem PySem.Fin) (gd : Bool → Bool) (lv : List Value → List Value) (c : Code) (p : Pos) (fs : List Frame) : List Frame :=
  .ret (fun r => ((match r with | .ok f => (.pure f : Sem Flow) | .error e => .raise e).onRaise (cameBack F.env)).wrap K J gd lv) none (gd false) (lv []) c p [] :: fs
theorem gcr_loop {ip ip' : List (Addr × Obj)} {c c' : Code} {fs : List Frame} {gd : Bool → Bool} {K : Flow → Sem PySem.Fin} {J : Value → Sem PySem.Fin} {lv : List Value → List Value} {p : Pos} (g : GCr F ip c fs gd) (hw : c'.weight = 0) (hu : c'.cUnits = 0) (hl : ∀ p ∈ ip', F.L < p.1) : GCr F ip' c' (loopFs F K J gd lv c p fs) id where
  ipL := hl
  over := (over_loop hw hu).trans g.over
  split := by show (splitAtGen fs).map _ = none; rw [g.split]; rfl
  guard := by show (gd false || fs.any Frame.guarded) = false; rw [g.gd, g.guard]; rfl
  gd := rfl
/-- an exception within a loop -/
def J1 (F : GF) : Value → Sem PySem.Fin := fun e => (do noteFrame e F.env; theTreesLotGoes e : Sem Unit).bind fun _ => .raise e
theorem jok_loop {ip : List (Addr × Obj)} {c c' : Code} {fs : List Frame} {gd : Bool → Bool} {K : Flow → Sem PySem.Fin} {J : Value → Sem PySem.Fin} {lv : List Value → List Value} {p : Pos} (g : GCr F ip c fs gd) (j : JOk F c fs J) (hw : c'.weight = 0) (hu : c'.cUnits = 0) : JOk F c' (loopFs F K J gd lv c p fs) (J1 F) := by
  intro R S s Hw E pn e s1 hs hR hx
  have own : PassesOwn (model F.P F.w) (F.cx s Hw E pn).A (F.cx s Hw E pn).env (F.cx s Hw E pn).xe := owns_gcx
  rw [GF.cx_env hs, GF.cx_A hs] at own
  have back : ∀ e s1, cameBackBy (model F.P F.w) (F.A.deeper F.env) F.env (F.cx s Hw E pn).xe e s1 → Seg1 (model F.P F.w) F.A R S c' (.raise e) (loopFs F K J gd lv c p fs) s1 := fun e s1 h => by
    refine s1_leaf (.error e) ?_
    show Seg1 _ _ _ _ _ (((cameBack F.env e).bind fun _ => (Sem.raise e : Sem Flow)).wrap K J gd lv) _ _
    rw [Sem.bind_eq_wrap, Sem.wrap_wrap]
    refine s1_wrap ?_
    rw [g.over]
    exact wpAny_mono h (fun _ s' hx => j R S s Hw E pn e s' hs hR hx) fun x s' hx => j R S s Hw E pn x s' hs hR hx
  unfold J1
  rw [Sem.bind_eq_wrap]
  refine s1_wrap ?_
  rw [(gcr_loop (ip' := []) (K := K) (J := J) (lv := lv) (p := p) g hw hu fun p hp => by cases hp).over]
  exact wpAny_bind (wpAny_mono (own e s1 hx) (fun _ s2 h => wpAny_theTreesLotGoes (back e s2 h)) fun y s2 h => back y s2 h)
theorem goes_again {fin : Option Exn} {r : List D} {c c' : Code} {fs : List Frame} {ip : List (Addr × Obj)} {env : DEnv} {Gm : Hp} (hq : c'.quiet = true) (h : GoesD F fin r c' ((model F.P F.w).den c') fs ip env Gm) : GoesD F fin r c (.pure (.again c')) fs ip env Gm := by
  obtain ⟨last, o, e, _⟩ := goes_step (F := F) (fin := fin) r
  rw [e] at h ⊢
  exact fun s Hw Gx E pn σ H G s1 I hp hx hm => s1_again hq (h s Hw Gx E pn σ H G s1 I hp hx hm)
theorem goes_leaf {fin : Option Exn} {r : List D} {c c₁ : Code} {k : Result → Sem PySem.Fin} {h : Option Value} {g : Bool} {l : List Value} {p₁ : Pos} {kp : List Value} {fs : List Frame} {ip : List (Addr × Obj)} {env : DEnv} {Gm : Hp} (q : Result) (hk : GoesD F fin r c₁ (k q) fs ip env Gm) : GoesD F fin r c (leafOf q) (.ret k h g l c₁ p₁ kp :: fs) ip env Gm := by
  obtain ⟨last, o, e, _⟩ := goes_step (F := F) (fin := fin) r
  rw [e] at hk ⊢
  exact fun s Hw Gx E pn σ H G s1 I hp hx hm => s1_leaf q (hk s Hw Gx E pn σ H G s1 I hp hx hm)
theorem goes_unpin {fin : Option Exn} {r : List D} {c : Code} {t : Sem PySem.Fin} {fs : List Frame} {ip pl : List (Addr × Obj)} {env : DEnv} {Gm : Hp} (h : GoesD F fin r c t fs ip env Gm) : GoesD F fin r c t fs (ip ++ pl) env Gm := by
  obtain ⟨last, o, e, _⟩ := goes_step (F := F) (fin := fin) r
  rw [e] at h ⊢
  exact fun s Hw Gx E pn σ H G s1 I hp hx hm => h s Hw Gx E pn σ H G s1 ⟨I.sz, I.inv.unpinned, I.rd⟩ (fun p hp' q hq => hp p hp' q (List.mem_append_left _ hq)) hx hm
/-- the pins of a loop's iterator at its turn i -/
structure PlOk (ip pl : List (Addr × Obj)) (fp : List Addr) (tn : Nat → Heap → Prop) (i : Nat) (L : Nat) : Prop where
  sub : ∀ p ∈ pl, p.1 ∈ fp
  all : ∀ b ∈ fp, ∃ o, (b, o) ∈ pl
  at_ : ∀ h : Heap, (∀ p ∈ pl, h.get? p.1 = some p.2) → tn i h
  apart : ∀ b ∈ fp, L < b ∧ ∀ p ∈ ip, p.1 ≠ b
theorem PlOk.fpOk {s s1 : Shared} {Hw Gx H G : Hp} {E : XK} {pn ip pl : List (Addr × Obj)} {env : DEnv} {σ : L2.St} {fp : List Addr} {tn : Nat → Heap → Prop} {i : Nat} (hcl : ∀ x, F.env.cells.lookup x = none) (po : PlOk ip pl fp tn i F.L) (I : In F s Hw Gx E pn (ip ++ pl) env σ H G s1) (hp : ∀ p ∈ pn, ∀ q ∈ ip ++ pl, p.1 ≠ q.1) :
    (∀ b ∈ fp, FpOk (F.cx s Hw E pn) ip H b) ∧ tn i s1.heap := by
  refine ⟨fun b hb => ?_, po.at_ _ fun p hp' => (I.inv.pin p (List.mem_append_right _ (List.mem_append_right _ hp'))).1⟩
  obtain ⟨o, ho⟩ := po.all b hb
  obtain ⟨z1, z2, z3, z4, z5⟩ := I.inv.pin (b, o) (List.mem_append_right _ (List.mem_append_right _ ho))
  refine ⟨z2, z3, z4, .inr ?_, fun x c e => ?_, fun p hp' => ?_⟩
  · show s.heap.objs.size ≤ b
    rw [I.sz]; exact Nat.le_of_lt (po.apart b hb).1
  · rw [GF.cx_env I.sz, hcl] at e; cases e
  · rcases List.mem_append.mp hp' with z | z
    · exact hp p z (b, o) (List.mem_append_right _ ho)
    · exact (po.apart b hb).2 p z
theorem goes_for {tg : Expr} {body : List Stmt} {g : TG} {t : DTg} {is : List Nat} {bm : GM} {Jt : It} {fp : List Addr} {itA : Addr} {tn : Nat → Heap → Prop} {G0 : Hp} {ds : List D} {c : Code} {fs : List Frame} {K : Flow → Sem PySem.Fin} {J : Value → Sem PySem.Fin} {gd : Bool → Bool} {lv : List Value → List Value} {p : Pos} {ip : List (Addr × Obj)} {fin : Option Exn} {r : List D}
    (hcl : ∀ x, F.env.cells.lookup x = none) (gc : GCr F ip c fs gd) (j : JOk F c fs J) (T : Turn F.P F.w F.K tg Jt fp itA tn) (wk : WalkD F.T Jt [] G0 ds) (hg : ∀ (s : Shared) (Hw : Hp) (E : XK) (pn : List (Addr × Obj)), s.heap.objs.size = F.L → PG (F.cx s Hw E pn) tg g) (hgd : GD F.K F.mg g t is) (hb : GDs F body bm) :
    ∀ (n i : Nat) (env : DEnv) (ys : List D) (out : Out Fl) (env' : DEnv) (pl : List (Addr × Obj)) (Gm : Hp), n + i = ds.length → gForRun t bm (ds.drop i) env = some (ys, out, env') → Kont F fin r K c fs ip Gm out env' → PlOk ip pl fp tn i F.L → Same G0 Gm →
      GoesD F fin (ys ++ r) (.forLoop tg (.ref itA) body [] F.env) ((model F.P F.w).den (.forLoop tg (.ref itA) body [] F.env)) (loopFs F K J gd lv c p fs) (ip ++ pl) env Gm := by
  intro n
  induction n with
  | zero =>
    intro i env ys out env' pl Gm hn hrun k po s0
    have hi : i = ds.length := by omega
    subst hi
    rw [List.drop_length] at hrun
    cases hrun
    have k : GoesD F fin r c (K .next) fs ip env Gm := k
    obtain ⟨last, o, e, _⟩ := goes_step (F := F) (fin := fin) r
    show GoesD F fin r _ _ _ _ env Gm
    rw [e] at k ⊢
    intro s Hw Gx E pn σ H G s1 I hp hx hm
    show Seg1 _ _ _ _ _ ((forTurn tg (.ref itA) body [] F.env).onRaise (fun x => do noteFrame x F.env; theTreesLotGoes x)) _ _
    rw [Sem.onRaise_eq_wrap]
    have ov := (gcr_loop (ip' := []) (c' := .forLoop tg (.ref itA) body [] F.env) (K := K) (J := J) (lv := lv) (p := p) gc rfl rfl fun p hp => by cases hp).over
    refine s1_bindw ?_
    rw [ov]
    refine wpAny_standAt (s1_bindw ?_)
    rw [ov]
    refine wpAny_onRaise ?_
    obtain ⟨hf, ht⟩ := po.fpOk hcl I hp
    have td := T.done (F.cx s Hw E pn) rfl rfl rfl rfl ds.length ip s1 σ H (fun _ _ => False) I.inv.unpinned hf ht (wk.stop [] G H (s0.trans hm) (.refl _) I.rd.gh)
    rw [GF.cx_A I.sz] at td
    refine wpAny_mono td (fun q s2 ⟨hq, I2⟩ => ?_) fun _ _ z => z.elim
    subst hq
    show Seg1 _ _ _ _ _ (.pure (.again (.block [] F.env))) _ _
    refine s1_again rfl (s1_leaf (.ok .next) ?_)
    exact k s Hw Gx E pn σ H G s2 ⟨I.sz, I2, I.rd⟩ (fun p hp' q hq => hp p hp' q (List.mem_append_left _ hq)) hx hm
  | succ n ih =>
    intro i env ys out env' pl Gm hn hrun k po s0
    have hlt : i < ds.length := by omega
    have hd : ds[i]? = some ds[i] := by simp [hlt]
    rw [List.drop_eq_getElem_cons hlt] at hrun
    obtain ⟨last, o, e, _⟩ := goes_step (F := F) (fin := fin) (ys ++ r)
    rw [e]
    intro s Hw Gx E pn σ H G s1 I hp hx hm
    have j1 := jok_loop (c' := .forLoop tg (.ref itA) body [] F.env) (K := K) (lv := lv) (p := p) gc j rfl rfl
    have ov := (gcr_loop (ip' := []) (c' := .forLoop tg (.ref itA) body [] F.env) (K := K) (J := J) (lv := lv) (p := p) gc rfl rfl fun p hp => by cases hp).over
    show Seg1 _ _ _ _ _ ((forTurn tg (.ref itA) body [] F.env).onRaise (fun x => do noteFrame x F.env; theTreesLotGoes x)) _ _
    rw [Sem.onRaise_eq_wrap]
    refine s1_bindw ?_
    rw [ov]
    refine wpAny_standAt (s1_bindw ?_)
    rw [ov]
    refine wpAny_onRaise ?_
    obtain ⟨hf, ht⟩ := po.fpOk hcl I hp
    obtain ⟨jg, jy⟩ := wk.go i _ hd [] G H (s0.trans hm) (.refl _) I.rd.gh
    have ti := T.item (F.cx s Hw E pn) rfl rfl rfl rfl i ip s1 σ H (fun _ _ => False) I.inv.unpinned hf ht jg
    rw [GF.cx_A I.sz] at ti
    refine wpAny_mono ti (fun q s2 ⟨u, hq, h2⟩ => ?_) fun _ _ z => z.elim
    subst hq
    refine s1_bindw ?_
    rw [ov]
    refine wpAny_mono h2 (fun _ s3 ⟨x, H3, I3, rx, hy, t3, n3⟩ => ?_) fun _ _ z => z.elim
    -- the item, as a deep value
    have item : ∃ G3, Same G G3 ∧ RD F.T (Wb Hw Gx) [] G3 H3 σ env [] ∧ Rep F.T [] G3 x ds[i] := by
      rcases jy x H3 hy with ⟨e3, r3⟩ | ⟨q, ws, l', hn3, e3, ex, ed, r3, z⟩
      · exact ⟨G, fun _ _ h => h, by rw [e3]; exact I.rd, r3⟩
      · have gn := (I.rd.fresh_ hn3).1
        exact ⟨_, same_upd gn, by rw [e3]; exact I.rd.alloc hn3, by rw [ex, ed]; exact rep_tup (.inl upd_same) z (r3.mono (same_upd gn) (.refl _))⟩
    obtain ⟨G3, s03, R3, rx3⟩ := item
    unfold gForRun at hrun
    split at hrun
    · cases hrun
    rename_i env1 he1
    have hf3 : ∀ b ∈ fp, FpOk (F.cx s Hw E pn) ip H3 b := fun b hb => ⟨n3 b hb, (hf b hb).2⟩
    have I3' := I3.pinned hf3 (T.obj _ _ t3)
    have po' : PlOk ip (pinsAt fp s3.heap) fp tn (i + 1) F.L := by
      refine ⟨fun p hp' => (of_pinsAt hp').1, fun b hb => ?_, fun h hh => T.keep _ _ _ t3 fun b hb o eo => hh (b, o) (mem_pinsAt hb eo), po.apart⟩
      obtain ⟨o, eo, _⟩ := T.obj _ _ t3 b hb
      exact ⟨o, mem_pinsAt hb eo⟩
    have hp3 : ∀ p ∈ pn, ∀ q ∈ ip ++ pinsAt fp s3.heap, p.1 ≠ q.1 := fun p hp' q hq => by
      rcases List.mem_append.mp hq with z | z
      · exact hp p hp' q (List.mem_append_left _ z)
      · obtain ⟨o, ho⟩ := po.all q.1 (of_pinsAt z).1
        exact hp p hp' (q.1, o) (List.mem_append_right _ ho)
    refine s1_bindw ?_
    rw [ov]
    have ta := (hg s Hw E pn I.sz).run _ s3 σ H3 x u (fun σ4 H4 => RD F.T (Wb Hw Gx) [] G3 H4 σ4 env1 []) I3' rx (hgd.ok _ _ _ _ _ _ _ _ _ _ _ R3 rx3 he1 fun σ4 R4 _ _ => R4)
    rw [GF.cx_env I.sz, GF.cx_A I.sz] at ta
    refine wpAny_mono ta (fun _ s4 ⟨σ4, H4, I4, R4⟩ => ?_) fun x s4 hx4 => j1.retR I.sz hx4
    have m3 : Same Gm G3 := hm.trans s03
    -- the body, then what follows
    have bodyH : ∀ (zs : List D) (o2 : Out Fl) (e2 : DEnv) (ws : List D), bm env1 = some (zs, o2, e2) → ys = zs ++ ws →
        Kont F fin (ws ++ r) (fun f => (match f with | .next | .cont => again (.forLoop tg (.ref itA) body [] F.env) | .brk => pure (.done .next) | .ret v => pure (.done (.ret v)) : Sem PySem.Fin).wrap .pure (J1 F) id id) (.forLoop tg (.ref itA) body [] F.env) (loopFs F K J gd lv c p fs) (ip ++ pinsAt fp s3.heap) G3 o2 e2 →
        Seg1 (model F.P F.w) F.A (retR F last fin s Hw Gx E pn) (yS F o s Hw Gx pn) (.forLoop tg (.ref itA) body [] F.env) ((execs body F.env >>= fun f => match f with | .next | .cont => again (.forLoop tg (.ref itA) body [] F.env) | .brk => pure (.done .next) | .ret v => pure (.done (.ret v))).wrap .pure (J1 F) id id) (loopFs F K J gd lv c p fs) s4 := by
      intro zs o2 e2 ws hbm hys hk
      have gL : ∀ q ∈ ip ++ pinsAt fp s3.heap, F.L < q.1 := fun q hq => by
        rcases List.mem_append.mp hq with z | z
        · exact gc.ipL q z
        · exact (po.apart _ (of_pinsAt z).1).1
      have := hb.run fin (ws ++ r) (.forLoop tg (.ref itA) body [] F.env) (loopFs F K J gd lv c p fs) _ (J1 F) id id (ip ++ pinsAt fp s3.heap) env1 G3 (gcr_loop gc rfl rfl gL) j1 zs o2 e2 hbm hk
      rw [← List.append_assoc, ← hys, e] at this
      rw [Sem.bind_eq_wrap', Sem.wrap_wrap]
      exact this s Hw Gx E pn σ4 H4 G3 s4 ⟨I.sz, I4, R4⟩ hp3 hx fun _ _ z => z
    have more : ∀ (zs : List D) (o2 : Out Fl) (e2 : DEnv), bm env1 = some (zs, o2, e2) → (gForRun t bm (ds.drop (i + 1)) e2).map (fun q => (zs ++ q.1, q.2)) = some (ys, out, env') → ∃ ws, ys = zs ++ ws ∧ GoesD F fin (ws ++ r) (.forLoop tg (.ref itA) body [] F.env) (.pure (.again (.forLoop tg (.ref itA) body [] F.env))) (loopFs F K J gd lv c p fs) (ip ++ pinsAt fp s3.heap) e2 G3 := by
      intro zs o2 e2 _ hr
      cases hq : gForRun t bm (ds.drop (i + 1)) e2 with
      | none => rw [hq] at hr; cases hr
      | some q =>
        obtain ⟨ws, o3, e3⟩ := q
        rw [hq] at hr
        cases hr
        exact ⟨ws, rfl, goes_again rfl (ih (i + 1) e2 ws _ _ _ G3 (by omega) hq (k.mono m3) po' (s0.trans m3))⟩
    split at hrun
    · rename_i zs e2 hbm
      obtain ⟨ws, h1, h2⟩ := more zs _ e2 hbm hrun
      exact bodyH zs _ e2 ws hbm h1 h2
    · rename_i zs e2 hbm
      obtain ⟨ws, h1, h2⟩ := more zs _ e2 hbm hrun
      exact bodyH zs _ e2 ws hbm h1 h2
    · rename_i zs e2 hbm
      cases hrun
      refine bodyH ys _ _ [] hbm (by simp) ?_
      exact goes_leaf (.ok .next) (goes_unpin (goes_mono (show GoesD F fin r c (K .next) fs ip env' Gm from k) m3))
    · rename_i n1 n2 n3
      refine bodyH ys out env' [] hrun (by simp) ?_
      cases out with
      | exc x => exact k
      | val f =>
        cases f with
        | nx => exact absurd hrun (n1 _ _)
        | ct => exact absurd hrun (n2 _ _)
        | brk => exact absurd hrun (n3 _ _)
        | ret d => exact k
theorem gd_for {tg iter : Expr} {body : List Stmt} {it : DEnv → Mu → Res (List D)} {g : TG} {t : DTg} {is : List Nat} {bm : GM} {pos : Pos} (hcl : ∀ x, F.env.cells.lookup x = none) (hi : ∀ (s : Shared) (Hw Gx : Hp) (E : XK) (pn : List (Addr × Obj)), s.heap.objs.size = F.L → DI (F.cx s Hw E pn) (Wb Hw Gx) (fun cls d _ H => E cls d H) tg iter it)
    (hg : ∀ (s : Shared) (Hw : Hp) (E : XK) (pn : List (Addr × Obj)), s.heap.objs.size = F.L → PG (F.cx s Hw E pn) tg g) (hgd : GD F.K F.mg g t is) (hb : GDs F body bm) (hs : ∀ x, foldedSetIterable iter F.env x = pure x) : GD1 F (.For tg iter body [] pos) (gFor it t bm) := by
  refine ⟨fun fin r c fs K J gdf lv ip env Gm gc j ys out env' hm k => ?_⟩
  obtain ⟨last, o, e, hl⟩ := goes_step (F := F) (fin := fin) (ys ++ r)
  rw [e]
  intro s Hw Gx E pn σ H G s1 I hp hx hmm
  rw [exec_For]
  refine s1_bindw ?_
  rw [gc.over]
  refine wpAny_standAt (s1_bindw ?_)
  rw [gc.over]
  have pi := (hi s Hw Gx E pn I.sz).run.run ip s1 σ H (fun Jt H' => ∃ G' ds, RD F.T (Wb Hw Gx) [] G' H' σ env [] ∧ Same G G' ∧ WalkD F.T Jt [] G' ds ∧ it env [] = some (.val ds, [])) I.inv ⟨[], G, env, [], I.rd, ?_⟩
  · rw [GF.cx_env I.sz, GF.cx_A I.sz] at pi
    refine wpAny_mono pi (fun v s2 h2 => ?_) fun x s2 hx2 => j.retR I.sz hx2
    refine s1_bindw ?_
    rw [gc.over]
    refine wpAny_of_eq (hs v) (s1_bindw ?_)
    rw [gc.over]
    refine wpAny_standAt (s1_bindw ?_)
    rw [gc.over]
    refine wpAny_holding (wpAny_mono h2 (fun itv s3 h3 => ?_) fun x s2 hx2 => j.retR I.sz hx2)
    obtain ⟨itA, fp, tn, Jt, H3, rfl, I3, T, t3, hf, G3, ds, R3, sg, wk, hds⟩ := h3
    show Seg1 _ _ _ _ c (.call (.forLoop tg (.ref itA) body [] F.env) none (gdf false) (lv []) fun r => ((match r with | .ok f => (.pure f : Sem Flow) | .error e => .raise e).onRaise (cameBack F.env)).wrap K J gdf lv) fs s3
    refine s1_call fun p => ?_
    have hrun : gForRun t bm (ds.drop 0) env = some (ys, out, env') := by
      unfold gFor at hm
      rw [hds] at hm
      exact hm
    have hf2 : ∀ b ∈ fp, F.L < b ∧ ∀ p ∈ ip, p.1 ≠ b := fun b hb => by
      obtain ⟨_, f1, _, f3, _, f5⟩ := hf b hb
      have f1 : b ≠ (F.cx s Hw E pn).env.locals := f1
      rw [GF.cx_env I.sz] at f1
      have f1 : b ≠ F.L := f1
      have f3 : F.L ≤ b := by
        rcases f3 with z | z
        · exact absurd (show b ∈ ([] : List Addr) from z) (by simp)
        · have z : s.heap.objs.size ≤ b := z
          rw [I.sz] at z; exact z
      exact ⟨Nat.lt_of_le_of_ne f3 (Ne.symm f1), fun p hp' => f5 p (List.mem_append_right _ hp')⟩
    have po : PlOk ip (pinsAt fp s3.heap) fp tn 0 F.L := by
      refine ⟨fun p hp' => (of_pinsAt hp').1, fun b hb => ?_, fun h hh => T.keep _ _ _ t3 fun b hb o eo => hh (b, o) (mem_pinsAt hb eo), hf2⟩
      obtain ⟨o, eo, _⟩ := T.obj _ _ t3 b hb
      exact ⟨o, mem_pinsAt hb eo⟩
    have hp3 : ∀ p ∈ pn, ∀ q ∈ ip ++ pinsAt fp s3.heap, p.1 ≠ q.1 := fun p hp' q hq => by
      rcases List.mem_append.mp hq with z | z
      · exact hp p hp' q z
      · exact (hf _ (of_pinsAt z).1).2.2.2.2.2 p (List.mem_append_left _ hp')
    have I3' := I3.pinned hf (T.obj _ _ t3)
    have go := goes_for (lv := lv) (p := p) hcl gc j T wk hg hgd hb ds.length 0 env ys out env' (pinsAt fp s3.heap) G3 (by omega) hrun (k.mono (hmm.trans sg)) po fun _ _ z => z
    rw [e] at go
    exact go s Hw Gx E pn σ H3 G3 s3 ⟨I.sz, I3', R3⟩ hp3 hx fun _ _ z => z
  · unfold gFor at hm
    split at hm
    · rename_i ds hds
      rw [hds]
      intro ρ' G' H' sg _ R' Jt wk
      have := rd_nil R'; subst this
      exact ⟨G', ds, R', sg, wk, rfl⟩
    · rename_i x hds
      cases hm
      obtain ⟨rfl, hf⟩ := k
      rw [hds]
      intro ρ' G' H' cls dd _ _ R' hx'
      have := rd_nil R'; subst this
      exact hx (hl rfl) x hf cls dd G' H' R'.ext R'.gh hx'
    · cases hm
end
end Gw

/-! DyQD: a generator wakes; next(g) as its consumer sees it. -/
namespace Gw
open PySem PySem.Spec PyProof.Rows L2 GenW Dv

/-- what is fixed about the def -/
structure FOk (F : GF) : Prop where
  kind : F.scope.kind = .function
  names : ∀ y ∈ F.scope.names, y.2 ≠ .cell ∧ y.2 ≠ .free
  hd : F.A.handled = none
  bsz : F.base.objs.size ≤ F.L
theorem cells_none : ∀ (l : List (Str × NameKind)) (n : Nat), (∀ y ∈ l, y.2 ≠ .cell ∧ y.2 ≠ .free) → ∀ x, (cellsFrom n l []).lookup x = none := by
  intro l n h x
  cases e : (cellsFrom n l []).lookup x with
  | none => rfl
  | some c =>
    exfalso
    have : ∀ (l : List (Str × NameKind)) (n : Nat) (cl : List (Str × Addr)), (∀ y ∈ l, y.2 ≠ .cell ∧ y.2 ≠ .free) → cellsFrom n l cl = cl := by
      intro l
      induction l with
      | nil => intro n cl _; rfl
      | cons y l ih =>
        intro n cl hy
        obtain ⟨a, k⟩ := y
        have h1 := (hy _ List.mem_cons_self).1
        have h2 := ih n cl fun z hz => hy z (List.mem_cons_of_mem _ hz)
        cases k <;> first | exact (h1 rfl).elim | exact h2
    rw [this l n [] h] at e
    cases e
theorem FOk.cl {F : GF} (h : FOk F) : ∀ x, F.env.cells.lookup x = none := cells_none _ _ h.names
theorem funs_cut {h base : Heap} {L : Nat} : ∀ (l : List Env), (∀ b ∈ frs l, b < L) → h.FunFrames base l → (cutH h L).FunFrames base l
  | [], _, _ => trivial
  | env :: r, hl, hf => by
    obtain ⟨hk, ⟨b, o, hb, hn, ho, hd⟩, hr⟩ := hf
    have e : frs (env :: r) = b :: frs r := by unfold frs; rw [List.filterMap_cons, hb]
    have lb : b < L := hl b (by rw [e]; exact List.mem_cons_self)
    exact ⟨hk, ⟨b, o, hb, hn, (cutH_at lb).trans ho, hd⟩, funs_cut r (fun z hz => hl z (by rw [e]; exact List.mem_cons_of_mem _ hz)) hr⟩
def cutS (s : Shared) (L : Nat) : Shared := { s with heap := cutH s.heap L }
/-- it wakes -/
theorem wake {F : GF} {s : Shared} {H G Gy : Hp} {E : XK} {pn ip : List (Addr × Obj)} {σ : L2.St} {env : DEnv} {oL : Obj} (ok : FOk F) (e0 : Env0 F.P F.w F.K F.mg F.base F.A F.outer s H) (hfr : ∀ b ∈ frs F.outer, b < F.L) (pv : Priv F ip σ env Gy oL) (hpv : ∀ q ∈ (F.L, oL) :: ip, s.heap.get? q.1 = some q.2 ∧ H q.1 = none)
    (sy : Same Gy G) (gh : Same G H) (hpn : ∀ p ∈ pn, s.heap.get? p.1 = some p.2 ∧ H p.1 = none ∧ p.1 ≠ F.L ∧ p.1 ∉ frs F.outer ∧ ∀ v, p.2.data ≠ .cell v) : In F (cutS s F.L) H G E pn ip env σ H G s := by
  obtain ⟨hL, nL⟩ := hpv _ List.mem_cons_self
  have lt : F.L < s.heap.objs.size := Heap.lt_size hL
  have sz : (cutS s F.L).heap.objs.size = F.L := cutH_size (Nat.le_of_lt lt)
  have ecx : (F.cx (cutS s F.L) H E pn).env = F.env := GF.cx_env sz
  have hcl := ok.cl
  have hkind : ∀ x, F.env.kindOf x ≠ some .cell ∧ F.env.kindOf x ≠ some .free := fun x =>
    ⟨fun z => (ok.names _ (PySem.mem_of_lookup z)).1 rfl, fun z => (ok.names _ (PySem.mem_of_lookup z)).2 rfl⟩
  have noA : ∀ b : Addr, b ∉ ([] : List Addr) := fun b z => by simp at z
  have hout : (F.cx (cutS s F.L) H E pn).fs = frs F.outer := rfl
  refine ⟨sz, ⟨⟨e0.mod, ok.kind, rfl, rfl, Nat.le_refl _, fun x y c h1 => ?_, fun x hx => ?_, fun x c _ h1 => ?_, fun _ => ok.hd, Around.frames_deeper e0.frames, .inr ⟨rfl, rfl⟩, fun b z => absurd z (noA b), fun b o q => ?_, ?_, fun b _ _ => noA b, fun b z => absurd z (noA b), funs_cut _ hfr e0.funs, e0.frf⟩,
    rfl, e0.bare, Un.kept fun b o q => (cutH_of q).2, ?_, fun x c h1 => ?_, ?_, fun x c h1 => ?_, fun p hp => ?_, e0.hok, pv.len⟩, ⟨gh, .refl _ _ _, pv.elen, fun i sv hs => ?_, fun i j l l' p h1 => ?_, ⟨rfl, List.nodup_nil, fun a z => absurd z (noA a), fun k m z => by simp at z⟩, fun q hq => by simp at hq, List.nodup_nil⟩⟩
  · rw [ecx, hcl] at h1; cases h1
  · rw [ecx] at hx
    rcases hx with z | z
    · exact ((hkind x).1 z).elim
    · exact ((hkind x).2 z).elim
  · rw [ecx, hcl] at h1; cases h1
  · have lb : b < F.L := Nat.lt_of_lt_of_le (Heap.lt_size q) ok.bsz
    exact ⟨(cutH_at lb).trans (e0.bs b o q).1, (e0.bs b o q).2⟩
  · show F.base.objs.size ≤ (cutS s F.L).heap.objs.size
    rw [sz]; exact ok.bsz
  · rw [ecx]
    exact pv.loc s.heap hL
  · rw [ecx, hcl] at h1; cases h1
  · rw [ecx]; exact nL
  · rw [ecx, hcl] at h1; cases h1
  · have eL : (F.cx (cutS s F.L) H E pn).env.locals = F.L := by rw [ecx]; rfl
    rw [eL]
    rcases List.mem_append.mp hp with z | z
    · exact hpn p z
    · obtain ⟨q1, q2⟩ := hpv p (List.mem_cons_of_mem _ z)
      obtain ⟨q3, q4⟩ := pv.ip p z
      exact ⟨q1, q2, Nat.ne_of_gt q3, fun m => absurd (Nat.lt_trans q3 (hfr _ m)) (Nat.lt_irrefl _), q4⟩
  · cases sv with
    | no => trivial
    | v d => exact let ⟨v, e1, e2⟩ := pv.slot i d hs; ⟨v, e1, e2.mono sy (.refl _)⟩
    | own l =>
      have := List.all_eq_true.mp pv.own _ (List.mem_of_getElem? hs)
      simp at this
  · have := List.all_eq_true.mp pv.own _ (List.mem_of_getElem? h1)
    simp at this

/-- the generator's part of the state, while it sleeps -/
def Sleeps (F : GF) (fin : Option Exn) (rest : List D) (pv : List (Addr × Obj)) (Gy : Hp) (gs : GenState) : Prop :=
  ∃ (ip : List (Addr × Obj)) (σ : L2.St) (env : DEnv) (oL : Obj) (c : Code) (t : Sem PySem.Fin) (fs : List Frame), pv = (F.L, oL) :: ip ∧ Priv F ip σ env Gy oL ∧ GoesD F fin rest c t fs ip env Gy ∧
    ((gs = .fresh c ∧ t = (model F.P F.w).den c ∧ fs = []) ∨ ∃ k l p, gs = .suspended k l c p fs false ∧ t = k (.send .none))
theorem s1_mono {M : Model} {A : Around} {R R' : EndR} {S S' : EndS} {c : Code} {t : Sem PySem.Fin} {fs : List Frame} {s : Shared} (h : Seg1 M A R S c t fs s) (hR : ∀ r s', R r s' → R' r s') (hS : ∀ v gs s', S v gs s' → S' v gs s') : Seg1 M A R' S' c t fs s := by
  intro Γ p h1 h2
  obtain ⟨e, s', hr, he⟩ := h Γ p h1 h2
  refine ⟨e, s', hr, ?_⟩
  cases e with
  | ret r => exact hR _ _ he
  | susp => exact ⟨he.1, hS _ _ _ he.2⟩
theorem Sleeps.goes {F : GF} {fin : Option Exn} {rest : List D} {pv : List (Addr × Obj)} {Gy : Hp} {gs : GenState} (h : Sleeps F fin rest pv Gy gs) : ∃ (ip : List (Addr × Obj)) (σ : L2.St) (env : DEnv) (oL : Obj), pv = (F.L, oL) :: ip ∧ Priv F ip σ env Gy oL ∧ ∃ last o, (∀ d nx, o = some (d, nx) → ∃ r, rest = d :: r ∧ nx = GoesD F fin r) ∧ (last = true ↔ rest = []) ∧
    ∀ (s : Shared) (Hw Gx : Hp) (E : XK) (pn : List (Addr × Obj)) (σ : L2.St) (H G : Hp) (s1 : Shared), In F s Hw Gx E pn ip env σ H G s1 → (∀ p ∈ pn, ∀ q ∈ ip, p.1 ≠ q.1) → (last = true → ExcOk F fin Hw Gx E) → Same Gy G → Goes1 (model F.P F.w) F.A (retR F last fin s Hw Gx E pn) (yS F o s Hw Gx pn) gs s1 := by
  obtain ⟨ip, σ, env, oL, c, t, fs, e, pvv, go, hg⟩ := h
  have : ∃ last o, GoesD F fin rest = step F fin last o ∧ (∀ d nx, o = some (d, nx) → ∃ r, rest = d :: r ∧ nx = GoesD F fin r) ∧ (last = true ↔ rest = []) := by
    cases rest with
    | nil => exact ⟨true, none, rfl, fun _ _ z => by (cases z), by simp⟩
    | cons d r => exact ⟨false, _, rfl, fun _ _ z => by cases z; exact ⟨r, rfl, rfl⟩, by simp⟩
  obtain ⟨last, o, e1, e2, e3⟩ := this
  rw [e1] at go
  refine ⟨ip, σ, env, oL, e, pvv, last, o, e2, e3, fun s Hw Gx E pn σ H G s1 I hp hx hm => ?_⟩
  have := go s Hw Gx E pn σ H G s1 I hp hx hm
  rcases hg with ⟨rfl, rfl, rfl⟩ | ⟨k, l, p, rfl, rfl⟩
  · exact this
  · exact this
/-! ### the consumer's side -/
def notCell (o : Obj) : Bool := match o.data with
  | .cell _ => false
  | _ => true
theorem notCell_iff {o : Obj} : notCell o = true ↔ ∀ v, o.data ≠ .cell v := by
  unfold notCell
  split
  · rename_i v e; simp [e]
  · rename_i h; simp only [true_iff]; exact h
/-- all that stands above the frame and is nobody's -/
def pnAll (s : Shared) (H : Hp) (L : Nat) (pv : List (Addr × Obj)) : List (Addr × Obj) := (List.range s.heap.objs.size).filterMap fun b => match s.heap.get? b with
  | some o => if L < b ∧ (H b).isNone = true ∧ notCell o = true ∧ (pv.any fun q => q.1 == b) = false then some (b, o) else none
  | none => none
theorem mem_pnAll {s : Shared} {H : Hp} {L : Nat} {pv : List (Addr × Obj)} {p : Addr × Obj} : p ∈ pnAll s H L pv ↔ s.heap.get? p.1 = some p.2 ∧ L < p.1 ∧ H p.1 = none ∧ (∀ v, p.2.data ≠ .cell v) ∧ ∀ q ∈ pv, q.1 ≠ p.1 := by
  unfold pnAll
  rw [List.mem_filterMap]
  constructor
  · rintro ⟨b, _, h⟩
    split at h
    · rename_i o e
      split at h
      · rename_i c
        cases h
        obtain ⟨c1, c2, c3, c4⟩ := c
        refine ⟨e, c1, by simpa using c2, notCell_iff.mp c3, fun q hq z => ?_⟩
        have := List.any_eq_false.mp c4 q hq
        simp [z] at this
      · cases h
    · cases h
  · rintro ⟨h1, h2, h3, h4, h5⟩
    refine ⟨p.1, List.mem_range.mpr (Heap.lt_size h1), ?_⟩
    rw [h1]
    have c4 : (pv.any fun q => q.1 == p.1) = false := List.any_eq_false.mpr fun q hq => by simpa using h5 q hq
    simp only [h3, Option.isNone_none, notCell_iff.mpr h4, c4, h2, and_self, if_true]
/-- what may change above the frame: its own, and cells of frames that are gone -/
def chAll (s : Shared) (H : Hp) (L : Nat) (pv : List (Addr × Obj)) : List Addr := pv.map (·.1) ++ (List.range s.heap.objs.size).filter fun b => (decide (L ≤ b) && (H b).isNone) && match s.heap.get? b with
  | some o => !notCell o
  | none => false
theorem mem_chAll {s : Shared} {H : Hp} {L : Nat} {pv : List (Addr × Obj)} {b : Addr} : b ∈ chAll s H L pv ↔ (∃ q ∈ pv, q.1 = b) ∨ (L ≤ b ∧ H b = none ∧ ∃ o, s.heap.get? b = some o ∧ notCell o = false) := by
  unfold chAll
  rw [List.mem_append, List.mem_map, List.mem_filter]
  constructor
  · rintro (h | ⟨_, h⟩)
    · exact .inl h
    · right
      simp only [Bool.and_eq_true, decide_eq_true_eq, Option.isNone_iff_eq_none] at h
      refine ⟨h.1.1, h.1.2, ?_⟩
      cases e : s.heap.get? b with
      | none => rw [e] at h; simp at h
      | some o => rw [e] at h; exact ⟨o, rfl, by simpa using h.2⟩
  · rintro (h | ⟨h1, hn, o, h2, h3⟩)
    · exact .inl h
    · right
      refine ⟨List.mem_range.mpr (Heap.lt_size h2), ?_⟩
      simp [h1, hn, h2, h3]
theorem stands {P : Program} {w : World} {H : Hp} {h : Heap} {a : Addr} {o : HO} (x : ObjOk P w H h a o) : ∃ o', h.get? a = some o' := by
  cases o with
  | lst => exact let ⟨_, _, _, _, e⟩ := x; ⟨_, e⟩
  | tup => exact let ⟨_, _, _, p⟩ := x; (let ⟨o, e, _⟩ := p; ⟨o, e⟩)
  | dK => exact let ⟨_, _, _, _, o, _, _, e, _⟩ := x; ⟨o, e⟩
  | dT => exact let ⟨_, _, _, _, o, _, _, e, _⟩ := x; ⟨o, e⟩
  | set => exact let ⟨o, _, _, _, e, _⟩ := x; ⟨o, e⟩
  | ins => exact let ⟨_, _, _, e, _⟩ := x; ⟨_, e⟩
  | own => exact x
  | xd => exact let ⟨_, ⟨o, _, _, e, _⟩, _⟩ := x; ⟨o, e⟩
  | rng => exact let ⟨_, _, _, e⟩ := x; ⟨_, e⟩
  | frz => exact ⟨_, x.1⟩
  | tbl => exact ⟨_, x⟩
  | met => exact ⟨_, x⟩
  | ext => exact x.2.1
theorem un_of {F : GF} {s s1 : Shared} {H G H' G' : Hp} {pv : List (Addr × Obj)} (hfr : ∀ b ∈ frs F.outer, b < F.L) (hlt : F.L ≤ s.heap.objs.size) (hpv : ∃ q ∈ pv, q.1 = F.L) (P : Post F (cutS s F.L) H G (pnAll s H F.L pv) H' G' s1) : Un (frs F.outer) (chAll s H F.L pv) H H' s.heap s1.heap := by
  have low : ∀ {b o}, b < F.L → s.heap.get? b = some o → (cutS s F.L).heap.get? b = some o := fun {b o} hb e => (cutH_at hb).trans e
  have side : ∀ {b o}, s.heap.get? b = some o → H b = none → b ∉ chAll s H F.L pv → F.L ≤ b → (b, o) ∈ pnAll s H F.L pv := fun {b o} e n hc hL => by
    rw [mem_chAll] at hc
    have h1 : ∀ q ∈ pv, q.1 ≠ b := fun q hq z => hc (.inl ⟨q, hq, z⟩)
    have h2 : notCell o = true := by
      cases z : notCell o with
      | true => rfl
      | false => exact (hc (.inr ⟨hL, n, o, e, z⟩)).elim
    have h3 : F.L ≠ b := fun z => by
      obtain ⟨q, hq, e⟩ := hpv
      exact h1 q hq (e.trans z)
    exact mem_pnAll.mpr ⟨e, Nat.lt_of_le_of_ne hL h3, n, notCell_iff.mp h2, h1⟩
  refine ⟨fun b o e n hf hc => ?_, fun b o e n hf _ => ?_, fun b o e n hc => ?_, fun b o e hc => ?_, P.base.tups, P.base.frzs, P.base.tbls⟩
  · by_cases hb : b < F.L
    · exact P.base.keep b o (low hb e) n hf (by simp)
    · exact (P.pin _ (side e n hc (Nat.le_of_not_lt hb))).1
  · exact P.base.slot b o (low (hfr b hf) e) n hf (by simp)
  · by_cases hb : b < F.L
    · exact P.base.free b o (low hb e) n (by simp)
    · exact (P.pin _ (side e n hc (Nat.le_of_not_lt hb))).2
  · by_cases hb : b < F.L
    · exact P.base.there b o (low hb e) (by simp)
    · cases n : H b with
      | none => exact ⟨o, (P.pin _ (side e n hc (Nat.le_of_not_lt hb))).1⟩
      | some x =>
        obtain ⟨x', e', _⟩ := P.ext.keep b x n
        exact stands (P.hok b x' e')
structure Seat (X : Cx) (F : GF) : Prop where
  eq : F.P = X.prog ∧ F.w = X.w ∧ F.K = X.K ∧ F.mg = X.mg ∧ F.base = X.base ∧ F.A = X.A.in1 ∧ F.outer = X.stack
  ok : FOk F
  fr : ∀ b ∈ frs X.stack, b < F.L
  cel : ∀ x c, X.env.cells.lookup x = some c → c < F.L
/-- its own objects, while the consumer runs -/
def PvOk (X : Cx) (pins : List (Addr × Obj)) (L : Addr) (H : Hp) (s : Shared) (pv : List (Addr × Obj)) : Prop := ∀ q ∈ pv, s.heap.get? q.1 = some q.2 ∧ H q.1 = none ∧ L ≤ q.1 ∧ (∀ v, q.2.data ≠ .cell v) ∧ q.1 ≠ X.env.locals ∧ ∀ p ∈ X.pn ++ pins, p.1 ≠ q.1
/-- what next has brought -/
def Came (X : Cx) (F : GF) (pins : List (Addr × Obj)) (σ : L2.St) (fin : Option Exn) (H G : Hp) (a : Addr) (g : Nat) (rest : List D) (r : Option Value) (s' : Shared) : Prop := ∃ (H' G' : Hp), Inv X pins σ H' s' ∧ Same G G' ∧ Ext [] G H [] G' H' ∧ Same G' H' ∧
  ((rest = [] ∧ fin = none ∧ r = none) ∨ ∃ (d : D) (rest' : List D) (v : Value) (x : V) (k : Resume → Sem PySem.Fin) (l : List Value) (c : Code) (p : Pos) (fs : List Frame) (pv' : List (Addr × Obj)), rest = d :: rest' ∧ r = some v ∧ RelV x v ∧ Rep F.T [] G' x d ∧ s'.gens[g]? = some (.suspended k l c p fs false) ∧
    Sleeps F fin rest' pv' G' (.suspended k l c p fs false) ∧ s'.heap.IsGen a g ∧ PvOk X pins F.L H' s' pv' ∧ H' a = none ∧ ∀ q ∈ pv', q.1 ≠ a)
theorem inv_gens {X : Cx} {pins : List (Addr × Obj)} {σ : L2.St} {H : Hp} {s : Shared} {G' : Array GenState} (I : Inv X pins σ H s) (h : AllBare G') : Inv X pins σ H { s with gens := G' } :=
  ⟨I.ok, I.os, h, I.base, I.loc, I.cell, I.free, I.freeC, I.pin, I.hok, I.len⟩
theorem next_ok {X : Cx} {pins : List (Addr × Obj)} {σ : L2.St} {H G Gy : Hp} {s : Shared} {F : GF} {fin : Option Exn} {rest : List D} {pv : List (Addr × Obj)} {gs : GenState} {a : Addr} {g : Nat} {E : XK} {Er : Value → Shared → Prop} (I : Inv X pins σ H s) (st : Seat X F)
    (hh : X.A.handled = none) (hd : X.A.depth < recursionLimit) (gh : Same G H) (sy : Same Gy G) (pvk : PvOk X pins F.L H s pv) (hyg : ∀ b, F.L ≤ b → H b = none → (b ∈ X.ex ∨ X.s_0.heap.objs.size ≤ b)) (sl : Sleeps F fin rest pv Gy gs) (hgs : s.gens[g]? = some gs) (hg : s.heap.IsGen a g)
    (ha : F.L < a ∧ H a = none ∧ ∀ q ∈ pv, q.1 ≠ a) (hx : rest = [] → ExcOk F fin H G E) (hEr : ∀ e s1, CX X.prog X.w X.stack H (cutS s F.L) (EpN E (pnAll s H F.L pv)) e s1 → (∀ p ∈ pnAll s H F.L pv, s1.heap.get? p.1 = some p.2) → s1.heap.IsGen a g → NotStop (model X.prog X.w) e s1.heap ∧ Er e (s1.setGen g .finished)) :
    wpAny (model X.prog X.w) X.A (pyNext (.ref a)) (Came X F pins σ fin H G a g rest) Er s := by
  obtain ⟨P, w, K, mg, base, N, qual, scope, f, cd, A, outer, L⟩ := F
  obtain ⟨⟨q1, q2, q3, q4, q5, q6, q7⟩, ok, fr, cel⟩ := st
  dsimp only at q1 q2 q3 q4 q5 q6 q7 fr cel
  subst q1 q2 q3 q4 q5 q6 q7
  obtain ⟨ip, σg, env, oL, e, pr, last, o, ho, hlast, go⟩ := sl.goes
  subst e
  have hL : ∃ q ∈ (L, oL) :: ip, q.1 = L := ⟨_, List.mem_cons_self, rfl⟩
  obtain ⟨hL1, hL2, _⟩ := pvk (L, oL) List.mem_cons_self
  have hlt : L < s.heap.objs.size := Heap.lt_size hL1
  have e0 : Env0 X.prog X.w X.K X.mg X.base X.A.in1 X.stack (s.setGen g .running) H := ⟨I.env0.frames, I.env0.mod, I.env0.bs, I.env0.bsz, I.env0.funs, I.env0.frf, I.env0.hok, allBare_setGen I.bare rfl⟩
  have inn := wake (F := ⟨X.prog, X.w, X.K, X.mg, X.base, N, qual, scope, f, cd, X.A.in1, X.stack, L⟩) (E := E) (pn := pnAll s H L ((L, oL) :: ip)) ok e0 fr pr (fun q hq => ⟨(pvk q hq).1, (pvk q hq).2.1⟩) sy gh fun p hp => by
    obtain ⟨z1, z2, z3, z4, z5⟩ := mem_pnAll.mp hp
    exact ⟨z1, z3, Nat.ne_of_gt z2, fun m => absurd (Nat.lt_trans z2 (fr _ m)) (Nat.lt_irrefl _), z4⟩
  have apart : ∀ p ∈ pnAll s H L ((L, oL) :: ip), ∀ q ∈ ip, p.1 ≠ q.1 := fun p hp q hq z => (mem_pnAll.mp hp).2.2.2.2 q (List.mem_cons_of_mem _ hq) z.symm
  have run := go _ _ _ _ _ _ _ _ _ inn apart (fun z => hx (hlast.mp z)) sy
  have gsz : g + 1 ≤ s.gens.size := (Array.getElem?_eq_some_iff.mp hgs).1
  -- the consumer's state behind a stretch
  have back : ∀ {H' G' : Hp} {s1 : Shared}, Post ⟨X.prog, X.w, X.K, X.mg, X.base, N, qual, scope, f, cd, X.A.in1, X.stack, L⟩ (cutS (s.setGen g .running) L) H G (pnAll s H L ((L, oL) :: ip)) H' G' s1 → Inv X pins σ H' s1 := by
    intro H' G' s1 Ps
    have u := un_of (F := ⟨X.prog, X.w, X.K, X.mg, X.base, N, qual, scope, f, cd, X.A.in1, X.stack, L⟩) (s := s.setGen g .running) fr (Nat.le_of_lt hlt) hL Ps
    refine I.call' (s' := s1) (ch := chAll (s.setGen g .running) H L ((L, oL) :: ip)) Ps.os u Ps.hok Ps.bare fun b hb => ?_
    rcases mem_chAll.mp hb with ⟨q, hq, rfl⟩ | ⟨h1, hn, o', h2, h3⟩
    · obtain ⟨z1, z2, z3, z4, z5, z6⟩ := pvk q hq
      refine ⟨hyg _ z3 z2, z5, fun x c hc => Nat.ne_of_lt (Nat.lt_of_lt_of_le (cel x c hc) z3), z6⟩
    · have hcell : ¬ ∀ v, o'.data ≠ .cell v := fun z => by rw [notCell_iff.mpr z] at h3; cases h3
      have h2 : s.heap.get? b = some o' := h2
      refine ⟨hyg _ h1 hn, fun z => ?_, fun x c hc => Nat.ne_of_lt (Nat.lt_of_lt_of_le (cel x c hc) h1), fun p hp z => ?_⟩
      · obtain ⟨m, ⟨ob, es, ep, hob, hod, _⟩, _⟩ := I.loc
        rw [← z, h2] at hob
        cases hob
        exact hcell fun v z => by rw [hod] at z; cases z
      · obtain ⟨y1, _, _, _, y5⟩ := I.pin p hp
        rw [z, h2] at y1
        cases y1
        exact hcell y5
  -- what the generator must not touch
  have keepA : ∀ {s1 : Shared}, (∀ p ∈ pnAll s H L ((L, oL) :: ip), s1.heap.get? p.1 = some p.2) → s1.heap.IsGen a g := fun {s1} hk => by
    obtain ⟨o', nm, qn, e1, e2, e3, e4⟩ := hg
    exact ⟨o', nm, qn, hk (a, o') (mem_pnAll.mpr ⟨e1, ha.1, ha.2.1, fun v z => by (rw [e3] at z; cases z), ha.2.2⟩), e2, e3, e4⟩
  refine wpAny_gsz gsz (next_gen1 hh I.nolimit hd hg hgs (F := fun s₁ => last = true ∧ fin = none ∧ ∃ H' G', Post ⟨X.prog, X.w, X.K, X.mg, X.base, N, qual, scope, f, cd, X.A.in1, X.stack, L⟩ (cutS (s.setGen g .running) L) H G (pnAll s H L ((L, oL) :: ip)) H' G' s₁)
    (Er := fun e s₁ => CX X.prog X.w X.stack H (cutS s L) (EpN E (pnAll s H L ((L, oL) :: ip))) e s₁ ∧ (∀ p ∈ pnAll s H L ((L, oL) :: ip), s₁.heap.get? p.1 = some p.2) ∧ s₁.heap.IsGen a g) (S := yS ⟨X.prog, X.w, X.K, X.mg, X.base, N, qual, scope, f, cd, X.A.in1, X.stack, L⟩ o (cutS (s.setGen g .running) L) H G (pnAll s H L ((L, oL) :: ip))) ?_ (fun v s₁ gs' hb hv => ?_) (fun s₁ hf h' hk => ?_) fun e s₁ he => ?_)
  · have goal : ∀ {c : Code} {t : Sem PySem.Fin} {fs : List Frame} {s1 : Shared}, Seg1 (model X.prog X.w) X.A.in1 (retR ⟨X.prog, X.w, X.K, X.mg, X.base, N, qual, scope, f, cd, X.A.in1, X.stack, L⟩ last fin (cutS (s.setGen g .running) L) H G E (pnAll s H L ((L, oL) :: ip))) (yS ⟨X.prog, X.w, X.K, X.mg, X.base, N, qual, scope, f, cd, X.A.in1, X.stack, L⟩ o (cutS (s.setGen g .running) L) H G (pnAll s H L ((L, oL) :: ip))) c t fs s1 →
        Seg1 (model X.prog X.w) X.A.in1 (fun r s₁ => ((r = .ok (.ret .none) ∨ r = .ok .next) ∧ last = true ∧ fin = none ∧ ∃ H' G', Post ⟨X.prog, X.w, X.K, X.mg, X.base, N, qual, scope, f, cd, X.A.in1, X.stack, L⟩ (cutS (s.setGen g .running) L) H G (pnAll s H L ((L, oL) :: ip)) H' G' s₁) ∨ ∃ e, r = .error e ∧ CX X.prog X.w X.stack H (cutS s L) (EpN E (pnAll s H L ((L, oL) :: ip))) e s₁ ∧ (∀ p ∈ pnAll s H L ((L, oL) :: ip), s₁.heap.get? p.1 = some p.2) ∧ s₁.heap.IsGen a g)
          (yS ⟨X.prog, X.w, X.K, X.mg, X.base, N, qual, scope, f, cd, X.A.in1, X.stack, L⟩ o (cutS (s.setGen g .running) L) H G (pnAll s H L ((L, oL) :: ip))) c t fs s1 := fun h => s1_mono h (fun r s' hr => by
      rcases hr with ⟨h1, h2, h3, h4⟩ | ⟨e, h1, h2, h3⟩
      · exact .inl ⟨h3, h1, h2, h4⟩
      · exact .inr ⟨e, h1, h2, h3, keepA h3⟩) fun _ _ _ z => z
    cases gs with
    | fresh c => exact goal run
    | suspended k l c p fs cl => exact goal run
    | running => exact run
    | finished => exact run
  · intro hsz
    have hsz1 : g < s₁.gens.size := by
      have e1 : (s₁.setGen g gs').gens.size = s₁.gens.size := setGen_size _ _ _
      have e2 : g + 1 ≤ (s₁.setGen g gs').gens.size := hsz
      omega
    obtain ⟨d, nx, hod, H', G', x, ip', σ', env', oL', k, l, c, p, fs, Ps, rv, rx, pr', hpv', rfl, hnx⟩ := hv
    obtain ⟨rest', hr, rfl⟩ := ho d nx hod
    refine ⟨H', G', inv_gens (back Ps) (allBare_setGen Ps.bare hb), Ps.ext.gg, Ps.ext, Ps.gh, .inr ⟨d, rest', v, x, k, l, c, p, fs, (L, oL') :: ip', hr, rfl, rv, rx, setGen_at hsz1, ⟨ip', σ', env', oL', c, _, fs, rfl, pr', hnx, .inr ⟨k, l, p, rfl, rfl⟩⟩, keepA (s1 := s₁.setGen g _) fun q hq => (Ps.pin q hq).1, fun q hq => ?_, ?_⟩⟩
    rotate_left 1
    · obtain ⟨oa, nm, qn, z1, z2, z3, z4⟩ := id hg
      have ma : (a, oa) ∈ pnAll s H L ((L, oL) :: ip) := mem_pnAll.mpr ⟨z1, ha.1, ha.2.1, fun v z => (by rw [z3] at z; cases z), ha.2.2⟩
      exact ⟨(Ps.pin _ ma).2, fun q hq => Ne.symm ((hpv' q hq).2.2 (a, oa) ma)⟩
    obtain ⟨y1, y2, y3⟩ := hpv' q hq
    have lo : L ≤ q.1 := by
      rcases List.mem_cons.mp hq with rfl | hq
      · exact Nat.le_refl _
      · exact Nat.le_of_lt (pr'.ip q hq).1
    have nc : ∀ v, q.2.data ≠ .cell v := by
      rcases List.mem_cons.mp hq with rfl | hq
      · obtain ⟨m, ⟨ob, es, ep, hob, hod, _⟩, _⟩ := pr'.loc s₁.heap y1
        have : s₁.heap.get? L = some oL' := y1
        rw [this] at hob; cases hob
        exact fun v z => by rw [hod] at z; cases z
      · exact (pr'.ip q hq).2
    have other : ∀ (b : Addr) (ob : Obj), s.heap.get? b = some ob → H b = none → (∀ v, ob.data ≠ .cell v) → (∀ q ∈ (L, oL) :: ip, q.1 ≠ b) → b ≠ q.1 := fun b ob e1 e2 e3 e4 z => by
      by_cases hb : L < b
      · exact y3 (b, ob) (mem_pnAll.mpr ⟨e1, hb, e2, e3, e4⟩) z
      · have : b ≠ L := fun w => e4 _ List.mem_cons_self w.symm
        rw [← z] at lo
        exact this (Nat.le_antisymm (Nat.le_of_not_lt hb) lo)
    refine ⟨y1, y2, lo, nc, fun z => ?_, fun p' hp' z => ?_⟩
    · obtain ⟨m, ⟨ob, es, ep, hob, hod, _⟩, _⟩ := I.loc
      exact other _ ob hob I.free (fun v z => by rw [hod] at z; cases z) (fun q hq => (pvk q hq).2.2.2.2.1) z.symm
    · obtain ⟨w1, w2, _, _, w5⟩ := I.pin p' hp'
      exact other _ p'.2 w1 w2 w5 (fun q hq => fun w => (pvk q hq).2.2.2.2.2 p' hp' w.symm) z
  · intro _
    obtain ⟨h1, hfin, H', G', Ps⟩ := hf
    refine ⟨H', G', ?_, Ps.ext.gg, Ps.ext, Ps.gh, .inl ⟨hlast.mp h1, hfin, rfl⟩⟩
    exact inv_gens ((back Ps).kept (t' := s₁.toks) hk) (allBare_setGen Ps.bare rfl)
  · obtain ⟨h1, h0, h2⟩ := he
    obtain ⟨h3, h4⟩ := hEr e s₁ h1 h0 h2
    exact ⟨h2, h3, fun _ => h4⟩
end Gw

/-! DyQE: generator defs and their calls. -/
namespace Gw
open PySem PySem.Spec PyProof.Rows L2 GenW Dv

/-- behind the call of a generator def at sc: nobody has woken it -/
structure GNew (P : Program) (w : World) (K : PySem.W.Frag) (mg : Str → Option Value) (base : Heap) (k : Nat) (outer : List Env) (H G : Hp) (sc s' : Shared) (ys : List D) (fin : Option Exn) (a : Addr) (g : Nat) (c : Code) (mk : Around → GF) (oL : Obj) : Prop where
  at_ : ∀ A, ∃ N qual scope f cd, mk A = ⟨P, w, K, mg, base, N, qual, scope, f, cd, A, outer, sc.heap.objs.size⟩
  lt : sc.heap.objs.size < a ∧ a < s'.heap.objs.size
  gen : s'.heap.IsGen a g
  st : s'.gens[g]? = some (.fresh c)
  os : s'.os = sc.os
  bare : AllBare s'.gens
  keep : ∀ b o, sc.heap.get? b = some o → s'.heap.get? b = some o
  fr : s'.heap.get? sc.heap.objs.size = some oL
  nc : ∀ v, oL.data ≠ .cell v
  sl : ∀ A, Room k A → A.frames = some outer → FOk (mk A) ∧ Sleeps (mk A) fin ys [(sc.heap.objs.size, oL)] G (.fresh c)
/-- a generator def: what it hands out, or the exception at the first request -/
abbrev GMean := List D → Option (List D × Option Exn)
structure GFnD (P : Program) (w : World) (K : PySem.W.Frag) (mg : Str → Option Value) (base : Heap) (k : Nat) (f : Addr) (fd : FuncData) (ps : List Str) (m : GMean) : Prop where
  run : ∀ (A : Around) (outer : List Env) (s : Shared) (H G : Hp) (args : Args) (us : List Value) (vs : List V) (ds ys : List D) (fin : Option Exn), Room k A → Env0 P w K mg base A outer s H → BindsTo s fd args (ps.zip us) → Vals vs us → Same G H → Reps ⟨K, mg⟩ [] G vs ds → ds.length = ps.length → m ds = some (ys, fin) →
    codeAny (model P w) A (.call (.ref f) args) (fun r s' => ∃ a g c mk oL, r = .ok (.ret (.ref a)) ∧ GNew P w K mg base k outer H G s s' ys fin a g c mk oL) s
def genD (n : Nat) (body : GM) : GMean := fun ds => match body (envD n ds) with
  | some (ys, .val .nx, _) => some (ys, none)
  | some (ys, .exc x, _) => some (ys, some x)
  | _ => none
section
variable {P : Program} {w : World} {K : PySem.W.Frag} {mg : Str → Option Value} {base : Heap}
theorem goes_func {F : GF} {fin : Option Exn} {r : List D} {body : List Stmt} {env : DEnv} {Gm : Hp}
    (h : GoesD F fin r (.func body F.env) ((execs body F.env).wrap (fun f => .pure (.done (.ret (match f with | .ret v => v | _ => .none)))) (fun e => (leaving F.env e).wrap (fun _ => .raise e) .raise id id) id id) [] [] env Gm) : GoesD F fin r (.func body F.env) ((model F.P F.w).den (.func body F.env)) [] [] env Gm := by
  obtain ⟨last, o, e, _⟩ := goes_step (F := F) (fin := fin) r
  rw [e] at h ⊢
  exact fun s Hw Gx E pn σ H G s1 I hp hx hm => s1_func (h s Hw Gx E pn σ H G s1 I hp hx hm)
theorem goes_body {F : GF} {body : List Stmt} {gm : GM} {env : DEnv} {ys : List D} {fin : Option Exn} {Gm : Hp} (hb : GDs F body gm) (hm : ∃ e', (fin = none ∧ gm env = some (ys, .val .nx, e')) ∨ ∃ x, fin = some x ∧ gm env = some (ys, .exc x, e')) :
    GoesD F fin ys (.func body F.env) ((model F.P F.w).den (.func body F.env)) [] [] env Gm := by
  refine goes_func ?_
  have gc : GCr F [] (.func body F.env) [] id := ⟨fun p hp => (by cases hp), over_func, rfl, rfl, rfl⟩
  have j : JOk F (.func body F.env) [] (fun e => (leaving F.env e).wrap (fun _ => .raise e) .raise id id) := by
    intro R S s Hw E pn e s1 hs hR hx
    refine s1_wrap ?_
    rw [gc.over]
    have hx : wpAny (model F.P F.w) (F.A.deeper (envOfC F.qual F.scope s.heap.objs.size F.f F.cd)) (leaving (envOfC F.qual F.scope s.heap.objs.size F.f F.cd) e) (fun _ s'' => CX F.P F.w F.outer Hw s (EpN E pn) e s'' ∧ ∀ p ∈ pn, s''.heap.get? p.1 = some p.2) (fun _ _ => False) s1 := hx
    rw [hs] at hx
    exact wpAny_mono hx (fun _ s2 ⟨q1, q2⟩ => s1_end (.error e) (hR e s2 q1 q2)) fun _ _ z => z.elim
  obtain ⟨e', hm⟩ := hm
  have e1 : ys = ys ++ [] := by simp
  rw [e1]
  rcases hm with ⟨rfl, hm⟩ | ⟨x, rfl, hm⟩
  · refine hb.run none [] _ [] _ _ id id [] env Gm gc j ys (.val .nx) e' hm ?_
    show step F none true none _ _ [] [] e' Gm
    intro s Hw Gx E pn σ H G s1 I hp hx hmm
    exact s1_end (.ok (.ret .none)) (.inl ⟨rfl, rfl, .inl rfl, H, G, I.post⟩)
  · exact hb.run (some x) [] _ [] _ _ id id [] env Gm gc j ys (.exc x) e' hm ⟨rfl, rfl⟩
/-- THE RULE: a generator def, by its body -/
theorem gfnd_of {k : Nat} {f : Addr} {name qual : Str} {params : Arguments} {body : List Stmt} {scope : Scope} {dV kV doc pm cdv ct oc : Value} {an od : Option Addr} {osl : Array (Option Value)} {N ps : List Str} {gm : GM}
    (lk : K.lookup f = some ⟨oc, od, .func (PySem.W.fnOf name qual params body scope dV kV doc pm an cdv ct), osl⟩) (hcd : PySem.W.codeIn K cdv qual = true) (S : GScope N ps scope) (nocell : ∀ y ∈ scope.names, y.2 ≠ .cell)
    (hbody : ∀ (A : Around) (outer : List Env) (L : Nat), Room k (A.deeper (envOfC qual scope L f cdv)) → GDs ⟨P, w, K, mg, base, N, qual, scope, f, cdv, A, outer, L⟩ body gm) :
    GFnD P w K mg base (k + 1) f (PySem.W.fnOf name qual params body scope dV kV doc pm an cdv ct) ps (genD N.length gm) := by
  refine ⟨fun A outer s H G args us vs ds ys fin hr e0 hb r gh rs hl hm => ?_⟩
  have hvl : vs.length = ps.length := by rw [rs.length]; exact hl
  have KX : K.In s.heap := e0.mod.kin.keeps fun b o e => (e0.bs b o e).1
  have lim : s.heap.NoLimit := e0.mod.nolimit.keeps fun b o e => (e0.bs b o e).1
  have names : ∀ y ∈ scope.names, y.2 ≠ .cell ∧ y.2 ≠ .free := fun y hy => ⟨nocell y hy, S.nofree y hy⟩
  have hkind : ∀ y ∈ ps.zip us, scope.names.lookup y.1 = some .local ∨ (scope.names.lookup y.1 = some .cell ∧ ((cellsFrom (s.heap.objs.size + 1) scope.names []).lookup y.1).isSome = true) := fun ⟨n, v⟩ hy => by
    rcases S.par n (List.of_mem_zip hy).1 with q | q
    · exact .inl q
    · exact (nocell _ (PySem.mem_of_lookup q) rfl).elim
  refine codeAny_call_generator hr.depth (KX _ _ lk) rfl S.co S.gen rfl (PySem.W.codeRec_of KX hcd) (hb _ _ _ _ (wpAny_newFunctionEnv_cells S.kind hkind fun env he s1 x => ?_))
  subst he
  obtain ⟨h1, tk, es1, _⟩ := x.done
  have os1 : s1.os = s.os := by rw [es1]
  have gen1 : s1.gens = s.gens := by rw [es1]
  have kp1 : ∀ b o, s.heap.get? b = some o → s1.heap.get? b = some o := x.toInCall.keep
  have lt1 : s.heap.objs.size < s1.heap.objs.size := x.toInCall.ns.lt
  refine ⟨lim.keeps kp1, ?_⟩
  have I1 := inv_startG (E := EpN (fun _ _ _ => False) []) S hr.hd e0 hvl r x
  obtain ⟨oL, pv, hoL⟩ := priv_of (F := ⟨P, w, K, mg, base, N, qual, scope, f, cdv, A, outer, s.heap.objs.size⟩) (E := fun _ _ _ => False) (pn := []) ⟨rfl, I1, start_rd (N := N) (μ := []) gh ⟨rfl, List.nodup_nil, fun a z => by simp at z, fun i m z => by simp at z⟩ rs⟩ (cells_none _ _ names) (fun p hp => by cases hp) (by
    unfold noOwns envD
    rw [List.all_append, Bool.and_eq_true]
    refine ⟨?_, ?_⟩
    · rw [List.all_map]; exact List.all_eq_true.mpr fun _ _ => rfl
    · exact List.all_eq_true.mpr fun z hz => by rw [(List.mem_replicate.mp hz).2])
  have ncL : ∀ v, oL.data ≠ .cell v := fun v z => by
    obtain ⟨m, ⟨ob, es, ep, hob, hod, _⟩, _⟩ := pv.loc s1.heap hoL
    have hoL' : s1.heap.get? s.heap.objs.size = some oL := hoL
    have hob' : s1.heap.get? s.heap.objs.size = some ob := hob
    rw [hoL'] at hob'; cases hob'
    rw [hod] at z; cases z
  have mean : ∃ e', (fin = none ∧ gm (envD N.length ds) = some (ys, .val .nx, e')) ∨ ∃ x, fin = some x ∧ gm (envD N.length ds) = some (ys, .exc x, e') := by
    unfold genD at hm
    split at hm
    · rename_i e' q; cases hm; exact ⟨e', .inl ⟨rfl, q⟩⟩
    · rename_i x e' q; cases hm; exact ⟨e', .inr ⟨x, rfl, q⟩⟩
    · cases hm
  have main : ∀ (go : Obj) (nm qn : Value) (tk2 : Nat), go.cls = .type "generator" → go.data = .fields #[.int s1.gens.size 0, nm, qn] → go.slots = #[] → (∀ h : Heap, (h.push go).get? h.objs.size = some go) →
      GNew P w K mg base (k + 1) outer H G s { s1 with gens := s1.gens.push (.fresh (.func body (envOfC qual scope s.heap.objs.size f cdv))), toks := tk2, heap := s1.heap.push go } ys fin s1.heap.objs.size s1.gens.size (.func body (envOfC qual scope s.heap.objs.size f cdv)) (fun A => ⟨P, w, K, mg, base, N, qual, scope, f, cdv, A, outer, s.heap.objs.size⟩) oL := by
    intro go nm qn tk2 g1 g2 g3 g4
    refine ⟨fun A => ⟨_, _, _, _, _, rfl⟩, ⟨lt1, ?_⟩, ⟨go, nm, qn, g4 _, g1, g2, g3⟩, Array.getElem?_push_size .., os1, AllBare.push (by rw [gen1]; exact e0.bare) rfl, fun b o e => Heap.get?_push_of_some _ (kp1 b o e), Heap.get?_push_of_some _ hoL, ncL, fun A' hr' hf' => ?_⟩
    · show _ < (s1.heap.push _).objs.size
      rw [Heap.size_push]; exact Nat.lt_succ_self _
    · refine ⟨⟨S.kind, names, hr'.hd, e0.bsz⟩, [], start N vs, envD N.length ds, oL, _, _, [], rfl, ?_, goes_body (hbody A' outer s.heap.objs.size (hr'.deeper _)) mean, .inl ⟨rfl, rfl, rfl⟩⟩
      exact ⟨pv.loc, pv.len, pv.elen, pv.own, pv.slot, pv.ip⟩
  exact ⟨_, _, _, _, _, rfl, main _ _ _ _ rfl rfl rfl fun h => Heap.get?_push_size _ rfl⟩
end
end Gw

/-! DyQF: expressions whose values are generators. -/
namespace Gw
open PySem PySem.Spec PyProof.Rows L2 GenW Dv

abbrev GRes := Res (List D × Option Exn)
/-- a generator has come, nobody has woken it -/
def GPost (X : Cx) (B : Bs) (k : Nat) (pins : List (Addr × Obj)) (σ : L2.St) (env : DEnv) (ρ : List Addr) (G : Hp) (P : List Addr → Hp → Hp → Mu → (List D × Option Exn) → Prop) (u : Value) (s' : Shared) : Prop :=
  ∃ (ρ' : List Addr) (G' H' : Hp) (μ' : Mu) (ys : List D) (fin : Option Exn) (sc : Shared) (a : Addr) (g : Nat) (c : Code) (mk : Around → GF) (oL : Obj), P ρ' G' H' μ' (ys, fin) ∧ Same G G' ∧ Pre ρ ρ' ∧ RD (tx X) B ρ' G' H' σ env μ' ∧ Inv X pins σ H' sc ∧ u = .ref a ∧
    GNew X.prog X.w X.K X.mg X.base k X.stack H' G' sc s' ys fin a g c mk oL
structure DGen (X : Cx) (B : Bs) (W : WX) (k : Nat) (e : Expr) (m : DEnv → Mu → GRes) : Prop where
  run : ∀ (pins : List (Addr × Obj)) (s : Shared) (σ : L2.St) (H : Hp) (ρ : List Addr) (G : Hp) (env : DEnv) (μ : Mu) (P : List Addr → Hp → Hp → Mu → (List D × Option Exn) → Prop), Inv X pins σ H s → RD (tx X) B ρ G H σ env μ → KE (tx X) B σ env W P ρ G (m env μ) →
    wpAny (model X.prog X.w) X.A (eval e X.env) (GPost X B k pins σ env ρ G P) X.xe s
def gApp (n : Nat) (gm : GMean) (ds : List D) (μ : Mu) : GRes := if ds.length = n ∧ ds.all nobor = true ∧ noObjs ds = true then (match gm ds with
  | some q => ret q μ
  | none => none) else none
/-- the arguments in the parameters' order: p tells where each parameter's value stands -/
def pick {α : Type} (p : List Nat) (l : List α) : List α := p.filterMap fun i => l[i]?
structure CalleeG (P : Program) (w : World) (K : PySem.W.Frag) (mg : Str → Option Value) (base : Heap) (x : Str) (ps : List Str) (kb : List (Nat × List Str × List Nat)) (k : Nat) (m : GMean) : Prop where
  ex : ∃ (f : Addr) (fd : FuncData), mg x = some (.ref f) ∧ PySem.W.keepIn K (.ref f) = true ∧ Binds K fd ps [] ∧
    (∀ q ∈ kb, ∀ (s : Shared) (us ws : List Value), K.In s.heap → us.length = q.1 → ws.length = q.2.1.length → BindsTo s fd ⟨us, q.2.1.zip ws⟩ (ps.zip (pick q.2.2 (us ++ ws)))) ∧ GFnD P w K mg base k f fd ps m
structure MethG (P : Program) (w : World) (K : PySem.W.Frag) (mg : Str → Option Value) (base : Heap) (c m : Str) (ps : List Str) (k : Nat) (gm : GMean) : Prop where
  ex : ∃ (C g : Addr) (fd : FuncData), mg c = some (.ref C) ∧ Cls K C ∧ Meth K C m g ∧ Binds K fd ps [] ∧ GFnD P w K mg base k g fd ps gm
section
variable {X : Cx} {B : Bs} {W : WX} {pins : List (Addr × Obj)} {σ : L2.St} {H : Hp} {s : Shared} {ρ : List Addr} {G : Hp} {env : DEnv} {μ : Mu} {P : List Addr → Hp → Hp → Mu → (List D × Option Exn) → Prop}
theorem pick_vals {p : List Nat} {vs : List V} {us : List Value} (h : Vals vs us) : Vals (pick p vs) (pick p us) := by
  induction p with
  | nil => exact .nil
  | cons i p ih =>
    unfold pick at ih ⊢
    rw [List.filterMap_cons, List.filterMap_cons]
    cases e : vs[i]? with
    | none =>
      have e2 : us[i]? = none := by
        rw [List.getElem?_eq_none_iff] at e ⊢
        rw [← h.length]; exact e
      rw [e2]; exact ih
    | some v =>
      obtain ⟨u, e2, r⟩ := h.get e
      rw [e2]
      exact .cons r ih
theorem HReps.get {T : Tx} {vs : List V} {ds : List D} {i : Nat} {v : V} (h : HReps T ρ G σ env vs ds) (e : vs[i]? = some v) : ∃ d, ds[i]? = some d ∧ HeldR T ρ G σ env v d := by
  induction h generalizing i with
  | nil => simp at e
  | cons a _ ih =>
    cases i with
    | zero => simp at e; subst e; exact ⟨_, rfl, a⟩
    | succ i => simpa using ih (by simpa using e)
theorem pick_hreps {T : Tx} {p : List Nat} {vs : List V} {ds : List D} (h : HReps T ρ G σ env vs ds) : HReps T ρ G σ env (pick p vs) (pick p ds) := by
  induction p with
  | nil => exact .nil
  | cons i p ih =>
    unfold pick at ih ⊢
    rw [List.filterMap_cons, List.filterMap_cons]
    cases e : vs[i]? with
    | none =>
      have e2 : ds[i]? = none := by
        rw [List.getElem?_eq_none_iff] at e ⊢
        rw [← h.length]; exact e
      rw [e2]; exact ih
    | some v =>
      obtain ⟨u, e2, r⟩ := HReps.get h e
      rw [e2]
      exact .cons r ih
theorem run_gd {k n : Nat} {f : Addr} {fd : FuncData} {ps : List Str} {gm : GMean} {us : List Value} {kw : List (Str × Value)} {ws : List Value} {vs : List V} {ds : List D} {ρ0 : List Addr} {G0 : Hp} (F : GFnD X.prog X.w X.K X.mg X.base k f fd ps gm) (hr : Room k X.A) (hb : BindsTo s fd ⟨us, kw⟩ (ps.zip ws)) (hn : ps.length = n)
    (I : Inv X pins σ H s) (R : RD (tx X) B ρ G H σ env μ) (r : Vals vs ws) (hv : HReps (tx X) ρ G σ env vs ds) (sg : Same G0 G) (pr : Pre ρ0 ρ) (k1 : KE (tx X) B σ env W P ρ G (gApp n gm ds μ)) : wpAny (model X.prog X.w) X.A (call (.ref f) us kw) (GPost X B k pins σ env ρ0 G0 P) X.xe s := by
  unfold gApp at k1
  split at k1
  · rename_i hc
    obtain ⟨hl, nb, no⟩ := hc
    split at k1
    · rename_i q hq
      obtain ⟨ys, fin⟩ := q
      have rs : Reps ⟨X.K, X.mg⟩ [] G vs ds := (hv.reps nb).off no
      refine wpAny_call (codeAny_mono (F.run X.A X.stack s H G ⟨us, kw⟩ ws vs ds ys fin hr I.env0 hb r R.gh rs (hl.trans hn.symm) hq) fun rr s' h => ?_)
      obtain ⟨a, g, c, mk, oL, rfl, h⟩ := h
      exact ⟨ρ, G, H, μ, ys, fin, s, a, g, c, mk, oL, k1 ρ G H (fun _ _ h => h) (.refl _) R, sg, pr, R, I, rfl, h⟩
    · exact k1.elim
  · exact k1.elim
variable {e o : Expr} {es : List Expr} {p pos apos : Pos}
def dGen (n : Nat) (gm : GMean) (na : DEnv → Mu → Res (List D)) : DEnv → Mu → GRes := fun env μ => bindR (na env μ) fun ds μ => gApp n gm ds μ
/-- f(e, ..) -/
theorem dgen_call {k n : Nat} {x : Str} {ps : List Str} {kb : List (Nat × List Str × List Nat)} {gm : GMean} {na : DEnv → Mu → Res (List D)} (C : CalleeG X.prog X.w X.K X.mg X.base x ps kb k gm) (hr : Room k X.A) (hg : Gl X x) (ha : DA X B W (e :: es) na) (hn : ps.length = n := by rfl) (hdb : (x == ("__debug__" : Str)) = false := by decide)
    (he : starEach (e :: es) X.env = (false, eval e X.env) :: starEach es X.env := by rfl) (hpl : (backTo pos (starEach es X.env)).any (·.1) = false := by rfl) : DGen X B W k (.Call (.Name x p) (e :: es) [] pos) (dGen n gm na) := by
  obtain ⟨f, fd, hm, hk, hb, _, F⟩ := C.ex
  refine ⟨fun pins s σ H ρ G env μ P I R k0 => ?_⟩
  refine wpAny_Call_Name_kw (ld_glob I hg hm ?_ hdb)
  apply PySem.W.callWith_K (h₀ := X.base) I.ok.mod.kin hk ?_ he hpl
  refine thn (ha.run.run pos pins s σ H (fun vs H1 => ∃ ρ1 G1 ds μ1, Same G G1 ∧ Pre ρ ρ1 ∧ RD (tx X) B ρ1 G1 H1 σ env μ1 ∧ HReps (tx X) ρ1 G1 σ env vs ds ∧ KE (tx X) B σ env W P ρ1 G1 (gApp n gm ds μ1)) I ⟨ρ, G, env, μ, R, (KE.bind (f := fun ds μ => gApp n gm ds μ) k0).imp fun ρ1 G1 H1 μ1 ds sg pr R1 k1 vs hvs => ⟨ρ1, G1, ds, μ1, sg, pr, R1, hvs, k1⟩⟩) fun us s1 ⟨vs, H1, I1, r, ρ1, G1, ds, μ1, sg, pr, R1, hvs, k1⟩ => ⟨I1.kIn, ?_⟩
  have hl : us.length = ps.length := by
    unfold gApp at k1
    split at k1
    · rename_i hc; rw [← r.length, hvs.length, hc.1, hn]
    · exact k1.elim
  have hb1 := hb s1 us I1.kIn (by simpa using hl)
  rw [List.append_nil] at hb1
  exact run_gd F hr hb1 hn I1 R1 r hvs sg pr k1
/-- f(e, .., x = e, ..), also without positional arguments -/
def dGenK (n n0 l : Nat) (q : List Nat) (gm : GMean) (na nk : DEnv → Mu → Res (List D)) : DEnv → Mu → GRes := fun env μ => bindR (na env μ) fun ds μ => bindR (nk env μ) fun zs μ => if ds.length = n0 ∧ zs.length = l then gApp n gm (pick q (ds ++ zs)) μ else none
theorem dgen_callK0 {k n : Nat} {x : Str} {ps ks : List Str} {q : List Nat} {kb : List (Nat × List Str × List Nat)} {gm : GMean} {kws : List Keyword} {nk : DEnv → Mu → Res (List D)} (C : CalleeG X.prog X.w X.K X.mg X.base x ps kb k gm) (hr : Room k X.A) (hg : Gl X x) (hq : (0, ks, q) ∈ kb) (hkw : DK X B W kws nk) (hn : ps.length = n := by rfl)
    (hall : (backToKw pos (keywordEach kws X.env)).all (·.1.isSome) = true := by rfl) (hks : (backToKw pos (keywordEach kws X.env)).filterMap (·.1) = ks := by rfl) (hdb : (x == ("__debug__" : Str)) = false := by decide)
    (hpl : ((backTo pos (starEach [] X.env)).any (·.1) || (backToKw pos (keywordEach kws X.env)).any (·.1.isNone)) = false := by rfl) : DGen X B W k (.Call (.Name x p) [] kws pos) (dGenK n 0 ks.length q gm dNil nk) := by
  obtain ⟨f, fd, hm, hk, _, hb, F⟩ := C.ex
  refine ⟨fun pins s σ H ρ G env μ P I R k0 => ?_⟩
  refine wpAny_Call_Name_kw (ld_glob I hg hm ?_ hdb)
  have k0 : KE (tx X) B σ env W P ρ G (bindR (nk env μ) fun zs μ => if ([] : List D).length = 0 ∧ zs.length = ks.length then gApp n gm (pick q ([] ++ zs)) μ else none) := k0
  refine PySem.W.callWith_KW0 (h₀ := X.base) I.ok.mod.kin hk hall (thn (hkw.run.run pos pins s σ H (fun vs H1 => ∃ ρ1 G1 ds μ1, Same G G1 ∧ Pre ρ ρ1 ∧ RD (tx X) B ρ1 G1 H1 σ env μ1 ∧ HReps (tx X) ρ1 G1 σ env vs ds ∧ KE (tx X) B σ env W P ρ1 G1 (if ([] : List D).length = 0 ∧ ds.length = ks.length then gApp n gm (pick q ([] ++ ds)) μ1 else none)) I ⟨ρ, G, env, μ, R, (KE.bind k0).imp fun ρ1 G1 H1 μ1 ds sg pr R1 k1 vs hvs => ⟨ρ1, G1, ds, μ1, sg, pr, R1, hvs, k1⟩⟩) fun us s1 ⟨vs, H1, I1, r, ρ1, G1, ds, μ1, sg, pr, R1, hvs, k1⟩ => ⟨I1.kIn, ?_⟩) hpl
  rw [hks]
  split at k1
  · rename_i hc
    have hl : us.length = ks.length := by rw [← r.length, hvs.length, hc.2]
    have hb1 := hb _ hq s1 [] us I1.kIn rfl hl
    exact run_gd (us := []) F hr hb1 hn I1 R1 (pick_vals (vs := [] ++ vs) (us := [] ++ us) r) (pick_hreps (vs := [] ++ vs) (ds := [] ++ ds) hvs) sg pr k1
  · exact k1.elim
end
end Gw

/-! DyQX: an exception out of a comprehension's generator. -/
namespace Gw
open PySem PySem.Spec PyProof.Rows L2 GenW Dv

section
variable {X : Cx} {W : WX} {pins : List (Addr × Obj)} {σ : L2.St} {H H' : Hp} {s s1 s3 : Shared} {E : XK} {B : Heap} {a : Addr} {cls : Value} {d : Option Addr}
/-- a call's exception, later held by our own frame -/
theorem xe_held (I : Inv X pins σ H s) (hw : W cls d σ H') (st : B.StaysIn s1.heap) (hok : HOk X.prog X.w H' B) (ub : UB (frs X.stack) H H' s.heap B s1.heap) (na : H' a = none) (os1 : s1.os = s.os) (ag1 : AllBare s1.gens)
    (held : HandSPX.HeldZ B X.stack a (Zc cls d) X.env.locals s3.heap) (up : ∀ b o, s1.heap.get? b = some o → ((B.get? b).isSome = true ∨ b ∈ frs X.stack) → (∀ vs, o.data ≠ .fields vs) → ∃ sl, s3.heap.get? b = some { o with slots := sl }) (os : s3.os = s1.os) (ag : AllBare s3.gens) : XE X W (.ref a) s3 := by
  obtain ⟨g, in_, out_⟩ := restrict s1.heap fun b => (B.get? b).isSome || decide (b ∈ frs X.stack)
  have ofB : ∀ b o, B.get? b = some o → g.get? b = some o := fun b o e => (in_ b (by simp [e])).trans (st b o e)
  have ofF : ∀ b, b ∈ frs X.stack → g.get? b = s1.heap.get? b := fun b hb => in_ b (by simp [hb])
  have back : ∀ b o, g.get? b = some o → s1.heap.get? b = some o ∧ ((B.get? b).isSome = true ∨ b ∈ frs X.stack) := fun b o e => by
    have q : ((B.get? b).isSome || decide (b ∈ frs X.stack)) = true := by
      cases q : ((B.get? b).isSome || decide (b ∈ frs X.stack)) with
      | true => rfl
      | false => rw [out_ b q] at e; cases e
    exact ⟨(in_ b q).symm.trans e, by simpa [Bool.or_eq_true] using q⟩
  have un : Un (frs X.stack) [] H H' s.heap g := by
    refine ⟨fun b o e n hb _ => ofB b o (ub.keep b o e n hb), fun b o e n hb _ => ?_, fun b o e n _ => ub.free b o e n, fun b o e _ => ?_, ub.tups, ub.frzs, ub.tbls⟩
    · rw [ofF b hb]; exact ub.slot b o e hb
    · by_cases hb : b ∈ frs X.stack
      · rw [ofF b hb]
        obtain ⟨sl, q⟩ := ub.slot b o e hb
        exact ⟨_, q⟩
      · exact let ⟨o', q⟩ := ub.there b o e hb; ⟨o', ofB b o' q⟩
  have J : Inv X pins σ H' { s1 with heap := g } := I.call' (ch := []) os1 un (hok.kept ofB) ag1 fun _ z => by simp at z
  refine ⟨a, B, _, pins, σ, H', cls, d, rfl, J, fun b o e hb => ?_, fun b o e hd => ?_, .inr (.inr held), na, os, ag, hw⟩
  · obtain ⟨e', z | z⟩ := back b o e
    · obtain ⟨o', q⟩ := Option.isSome_iff_exists.mp z
      rw [st b o' q] at e'; cases e'
      exact q
    · exact absurd z hb
  · obtain ⟨e', z⟩ := back b o e
    exact up b o e' z hd
/-- the loop's block notes it, lets its names go, passes it on -/
theorem comp_fails {sc : Shared} {e : Value} {ce : Env} {m : Str → Option Value} {use : Option (Value → Sem Unit)} {Qf : Value → Shared → Prop} {acc : Value} (I : Inv X pins σ H sc) (hs : X.stack = X.env :: X.outer) (hf : X.env.frame = some X.env.locals) (hcf : ce.frame = X.env.frame) (hC : sc.heap.get? ce.locals = none)
    (hn : s1.heap.Ns ce.locals m) (hCf : ce.locals ∉ frs X.stack) (c : CX X.prog X.w X.stack H sc (fun cls d H' => E cls d H' ∧ H' ce.locals = none) e s1) (hW : ∀ cls d H', E cls d H' → W cls d σ H') (tk : Takes X W) :
    notedBy (model X.prog X.w) X.A ce (fun e s' => compEnds (model X.prog X.w) X.A X.xe use Qf acc ce (.error e) s') e s1 := by
  obtain ⟨a, B, H', cls, d, rfl, fl, hok, ub, na, os, ag, hE, hCn⟩ := c
  obtain ⟨B', same, gone⟩ := restrict B fun b => decide (b ≠ ce.locals)
  have hB : ∀ b o, B'.get? b = some o → b ≠ ce.locals ∧ B.get? b = some o := fun b o e => by
    by_cases q : b = ce.locals
    · rw [gone b (by simp [q])] at e; cases e
    · rw [same b (by simp [q])] at e; exact ⟨q, e⟩
  have hB2 : ∀ b o, b ≠ ce.locals → B.get? b = some o → B'.get? b = some o := fun b o q e => (same b (by simp [q])).trans e
  have none' : ∀ b, B.get? b = none → B'.get? b = none := fun b e => by
    cases q : B'.get? b with
    | none => rfl
    | some o => rw [(hB b o q).2] at e; cases e
  obtain ⟨f1, f2, f3, oe, vs, T, oT, ts, x1, x2, x3, x4, x5, x6, x7⟩ := fl
  have st' : B'.StaysIn s1.heap := fun b o e => f1 b o (hB b o e).2
  have fr' : s1.heap.FunFrames B' X.stack := funFrames_none f3 fun b hb => none' b (f3.mem hb).1
  have fl' : HandSPX.FlyingZ B' X.stack a (Zc cls d) s1.heap := ⟨st', none' a f2, fr', oe, vs, T, oT, ts, x1, x2, x3, x4, none' T x5, x6, x7⟩
  have hok' : HOk X.prog X.w H' B' := fun b o q => (hok b o q).stay (fun c u hc r => hB2 c u (fun z => by
    rcases hc with hc | hc
    · rw [← hc, z, hCn] at q; cases q
    · rw [z, hCn] at hc; cases hc) r) (fun _ r => r) fun _ _ r => r
  have ub' : UB (frs X.stack) H H' sc.heap B' s1.heap := by
    have nC : ∀ {b o}, sc.heap.get? b = some o → b ≠ ce.locals := fun {b o} e z => by rw [z, hC] at e; cases e
    exact ⟨fun b o e n hb => hB2 b o (nC e) (ub.keep b o e n hb), ub.slot, ub.free, fun b o e hb => (let ⟨o', q⟩ := ub.there b o e hb; ⟨o', hB2 b o' (nC e) q⟩), ub.tups, ub.frzs, ub.tbls⟩
  have hfr : X.A.frames = some (X.env :: X.outer) := by rw [I.ok.frames, hs]
  show wpAny _ X.A (noteFrame (.ref a) ce) _ _ s1
  have en : noteFrame (.ref a) ce = noteFrame (.ref a) X.env := by
    unfold noteFrame PySem.frameOf
    rw [hcf]
  rw [en]
  refine HandSPX.looks_onZ Zc.steady hfr hf (by rw [← hs]; exact fl') fun h' hH up1 => ?_
  have hn' : h'.Ns ce.locals m := Heap.UpToSlots.ns up1 hn
  refine ⟨m, hn', fun h2 m2 hn2 sb => ?_⟩
  obtain ⟨k1, k2, k3, oe', vs', T', oT', ts', y1, y2, y3, y4, y5, y6, y7, y8, y9⟩ := hH
  have notC : ∀ {b o zs}, h'.get? b = some o → o.data = .fields zs → b ≠ ce.locals := fun {b o zs} e1 e2 z => by
    obtain ⟨ob, es, ep, w1, w2, _⟩ := hn'
    rw [z, w1] at e1; cases e1
    rw [w2] at e2; cases e2
  have h2a := (sb.2 a (notC y1 y3)).trans y1
  have h2T := (sb.2 T' (notC y7 y8)).trans y7
  have held2 : HandSPX.HeldZ B' (X.env :: X.outer) a (Zc cls d) X.env.locals h2 := ⟨fun b o e => (sb.2 b (hB b o e).1).trans (k1 b o e), k2, Heap.FunFrames.sameBut sb hn2 k3, oe', vs', T', oT', ts', h2a, y2, y3, y4, y5, y6, h2T, y8, y9⟩
  unfold PySem.passOn
  refine wpAny_bind (wpAny_field h2a y3 y4 ?_)
  rw [if_neg (show ¬ ((Value.ref T' == Value.none) = true) from Bool.false_ne_true), hcf, hf]
  refine wpAny_bind (HandSPX.setFlight_onZ (s := { s1 with heap := h2 }) held2 fun h3 held3 up2 => wpAny_throw (tk _ _ ?_))
  refine xe_held (s3 := { s1 with heap := h3 }) I (hW _ _ _ hE) st' hok' ub' na os ag (by rw [hs]; exact held3) (fun b o e hb hd => ?_) rfl ag
  have bC : b ≠ ce.locals := by
    rcases hb with z | z
    · obtain ⟨o', q⟩ := Option.isSome_iff_exists.mp z
      exact (hB b o' q).1
    · exact fun w => hCf (w ▸ z)
  obtain ⟨sl, e1⟩ := up1 b o e hd
  obtain ⟨sl2, e2⟩ := up2 b _ ((sb.2 b bC).trans e1) hd
  exact ⟨sl2, e2⟩
end
theorem cx_cut {P : Program} {w : World} {outer : List Env} {H Hi : Hp} {sc s : Shared} {L : Nat} {E : XK} {e : Value} {s1 : Shared} (e0 : ∀ b ∈ frs outer, H b = none) (u : Un (frs outer) [] H Hi sc.heap s.heap) (sz : sc.heap.objs.size = L) (os : s.os = sc.os) (c : CX P w outer Hi (cutS s L) E e s1) : CX P w outer H sc E e s1 := by
  obtain ⟨a, B, H', cls, d, rfl, fl, hb, ub, hn, hos, hbr, hE⟩ := c
  have low : ∀ {b o}, sc.heap.get? b = some o → ∀ {o'}, s.heap.get? b = some o' → (cutS s L).heap.get? b = some o' := fun {b o} e {o'} e' => (cutH_at (by rw [← sz]; exact Heap.lt_size e)).trans e'
  refine ⟨a, B, H', cls, d, rfl, fl, hb, ⟨fun b o e n hf => ?_, fun b o e hf => ?_, fun b o e n => ?_, fun b o e hf => ?_, fun b xs q => ub.tups b xs (u.tups b xs q), fun b o x q => ub.frzs b o x (u.frzs b o x q), fun b ps q => ?_⟩, hn, hos.trans os, hbr, hE⟩
  · exact ub.keep b o (low e (u.keep b o e n hf (by simp))) (u.free b o e n (by simp)) hf
  · obtain ⟨sl, e1⟩ := u.slot b o e (e0 b hf) hf (by simp)
    obtain ⟨sl2, e2⟩ := ub.slot b _ (low e e1) hf
    exact ⟨sl2, e2⟩
  · obtain ⟨o', e1⟩ := u.there b o e (by simp)
    exact ub.free b o' (low e e1) (u.free b o e n (by simp))
  · obtain ⟨o', e1⟩ := u.there b o e (by simp)
    exact ub.there b o' (low e e1) hf
  · obtain ⟨m1, e1⟩ := u.tbls b ps q
    obtain ⟨m2, e2⟩ := ub.tbls b _ e1
    exact ⟨m1 ++ m2, by rw [e2, Array.append_assoc]⟩
/-- the classes that end no iterator -/
def NoStops (K : PySem.W.Frag) (mg : Str → Option Value) (okx : Str → Bool) : Prop := ∀ c C, okx c = true → mg c = some (.ref C) → PySem.W.subIn K (.ref C) (.type "StopIteration") = some false
end Gw

/-! DyQG: a comprehension over a generator. -/
namespace Gw
open PySem PySem.Spec PyProof.Rows L2 GenW Dv

/-- a step of the consumer's code: nobody is woken -/
theorem asleep {X : Cx} {pins : List (Addr × Obj)} {σ : L2.St} {H : Hp} {s : Shared} {α : Type} {t : Sem α} {Q : α → Shared → Prop} {E : Value → Shared → Prop} {A : Around} (I : Inv X pins σ H s) (h : ∀ s1, Inv X pins σ H s1 → s1.heap = s.heap → wpAny (model X.prog X.w) A t Q (fun _ _ => False) s1) :
    wpAny (model X.prog X.w) A t (fun a s' => ∃ s₁, Slept1 s.gens s₁ s' ∧ Q a s₁) E s := by
  refine wpAny_mono (wpAny_slept (h (mutedAll s) (inv_gens I (bare_muted I.bare)) rfl)) (fun _ _ z => z) fun _ _ z => ?_
  obtain ⟨_, _, z⟩ := z
  exact z.elim
theorem Slept1.inv {X : Cx} {pins : List (Addr × Obj)} {σ' : L2.St} {H' : Hp} {s s₁ s' : Shared} (h : Slept1 s.gens s₁ s') (I0 : AllBare s.gens) (I : Inv X pins σ' H' s₁) : Inv X pins σ' H' s' := by
  have := inv_gens I (h.bare I0 I.bare)
  rw [← h.eq] at this
  exact this
theorem cellsFrom_same : ∀ (l : List (Str × NameKind)) (n : Nat) (cl : List (Str × Addr)), (∀ y ∈ l, y.2 ≠ .cell) → cellsFrom n l cl = cl
  | [], _, _, _ => rfl
  | (a, k) :: l, n, cl, h => by
    have h1 := h _ List.mem_cons_self
    have h2 := cellsFrom_same l n cl fun z hz => h z (List.mem_cons_of_mem _ hz)
    cases k <;> first | exact (h1 rfl).elim | exact h2
/-- the state behind a generator's call, in the consumer's frame -/
theorem GNew.inv {X : Cx} {pins : List (Addr × Obj)} {σ : L2.St} {H G : Hp} {sc s' : Shared} {k : Nat} {ys : List D} {fin : Option Exn} {a : Addr} {g : Nat} {c : Code} {mk : Around → GF} {oL : Obj} (N : GNew X.prog X.w X.K X.mg X.base k X.stack H G sc s' ys fin a g c mk oL) (I : Inv X pins σ H sc) : Inv X pins σ H s' :=
  I.call' (ch := []) N.os (Un.kept N.keep) (I.hok.kept N.keep) N.bare fun b z => by simp at z
section
variable {X : Cx} {B : Bs} {W : WX}
/-- amid the loop -/
structure LcG (X Y : Cx) (F : GF) (B : Bs) (D : Addr) (σ : L2.St) (env : DEnv) (vs : List Nat) (g a : Nat) (tg : DTg) (tt : DEnv → Mu → Res Bool) (el : DEx) (G1 : Hp) (ρ1 : List Addr) (l : List Dv.D) (μf : Mu) (fx : Option Exn) (rest : List Dv.D) (s' : Shared) : Prop where
  ex : ∃ (H' G' Gy : Hp) (ρ' : List Addr) (μ' : Mu) (us : List V) (acc out : List Dv.D) (pv : List (Addr × Obj)) (gs : GenState), Inv Y [] (wipe σ vs) H' s' ∧ RD (tx X) (B.add D us) ρ' G' H' σ env μ' ∧ Reps (tx X) ρ' G' us acc ∧ acc.length + rest.length < 16777216 ∧
    lcRun tg tt el (wipeD env vs) rest μ' = some (out, μf) ∧ acc ++ out = l ∧ Same G1 G' ∧ Pre ρ1 ρ' ∧ s'.gens[g]? = some gs ∧ Sleeps F fx rest pv Gy gs ∧ Same Gy G' ∧ s'.heap.IsGen a g ∧ PvOk Y [] F.L H' s' pv ∧ H' a = none ∧ (∀ q ∈ pv, q.1 ≠ a)
theorem ext_any {G H G' H' : Hp} {ρ : List Addr} (e : Ext [] G H [] G' H') : Ext ρ G H ρ G' H' :=
  ⟨e.gg, .refl _, fun a o h => (let ⟨o', q, k⟩ := e.keep a o h; ⟨o', q, fun _ => k (by simp)⟩), e.fg, fun a h n => absurd h n⟩
theorem str_ext {T : Tx} {ρ : List Addr} {G H G' H' : Hp} {μ : Mu} (e : Ext [] G H [] G' H') (st : StR T ρ G H μ) : StR T ρ G' H' μ where
  len := st.len
  nd := st.nd
  off := fun a ha => by
    cases q : G' a with
    | none => rfl
    | some o =>
      have h0 := e.fg a o q (st.off a ha)
      obtain ⟨k, hk⟩ := List.mem_iff_getElem?.mp ha
      have hlt : k < μ.length := by rw [← st.len]; exact (List.getElem?_eq_some_iff.mp hk).1
      obtain ⟨a', ea, r⟩ := st.at_ k (μ[k]) (by simp [hlt])
      rw [hk] at ea; cases ea
      obtain ⟨o', e1⟩ := r.some
      rw [e1] at h0; cases h0
  at_ := fun k m hm => by
    obtain ⟨a, ea, r⟩ := st.at_ k m hm
    exact ⟨a, ea, r.to e.gg fun o h => e.old h (by simp)⟩
theorem rd_ext {T : Tx} {B : Bs} {ρ : List Addr} {G H G' H' : Hp} {σ : L2.St} {env : DEnv} {μ : Mu} (R : RD T B ρ G H σ env μ) (e : Ext [] G H [] G' H') (gh : Same G' H') : RD T B ρ G' H' σ env μ := R.after (ext_any e) gh (str_ext e R.st)
/-- one turn: next, the target, the tests, the element -/
theorem lcG_turn {elt tg iter : Expr} {ifs : List Expr} {scope : Scope} {pos : Pos} {g : TG} {t : DTg} {is vs : List Nat} {tt : DEnv → Mu → Res Bool} {el : DEx} {X Y : Cx} {F : GF} {D a : Addr} {gn : Nat} {σ : L2.St} {env : DEnv} {G1 : Hp} {ρ1 : List Addr} {l : List Dv.D} {μf : Mu} {fx : Option Exn} {rest : List Dv.D} {s : Shared} {R : Result → Shared → Prop} {Ef : Value → Shared → Prop}
    (hY : Y.K = X.K ∧ Y.mg = X.mg) (st : Seat Y F) (hc : Y.calm = true) (hh : Y.A.handled = none) (hd : Y.A.depth < recursionLimit) (hyg : ∀ b, F.L ≤ b → b ≠ D → (b ∈ Y.ex ∨ Y.s_0.heap.objs.size ≤ b)) (hpn : Y.pn = []) (hla : F.L < a) (hal : a ≠ Y.env.locals) (gd : GD X.K X.mg g t is) (his : ∀ i ∈ is, i ∈ vs) (no : noOwn env vs = true)
    (hg : PG Y tg g) (ht : ∀ B, DTs Y B W0 ifs tt) (he : ∀ B, DE Y B W0 elt el) (hxe : Y.xe = fun _ _ => False) (S : LcG X Y F B D σ env vs gn a t tt el G1 ρ1 l μf fx rest s)
    (fail : ∀ (s : Shared) (H' G' : Hp) (ρ' : List Addr) (us : List V) (pv : List (Addr × Obj)) (e : Value) (s1 : Shared), Inv Y [] (wipe σ vs) H' s → RD (tx X) (B.add D us) ρ' G' H' σ env μf → Same G1 G' → Pre ρ1 ρ' → PvOk Y [] F.L H' s pv →
      CX Y.prog Y.w Y.stack H' (cutS s F.L) (EpN (fun cls dd H'' => ∃ x G'', fx = some x ∧ Ext [] G' H' [] G'' H'' ∧ Same G'' H'' ∧ ExR F.T [] G'' H'' cls dd x) (pnAll s H' F.L pv)) e s1 → (∀ p ∈ pnAll s H' F.L pv, s1.heap.get? p.1 = some p.2) → s1.heap.IsGen a gn → NotStop (model Y.prog Y.w) e s1.heap ∧ Ef e (s1.setGen gn .finished))
    (done : ∀ s' H' G' ρ' us, fx = none → Inv Y [] (wipe σ vs) H' s' → RD (tx X) (B.add D us) ρ' G' H' σ env μf → Reps (tx X) ρ' G' us l → szl l.length → Same G1 G' → Pre ρ1 ρ' → R (.ok .next) s') :
    wpAny (model Y.prog Y.w) Y.A (pyNext (.ref a)) (fun r s₁ => match r with
      | none => R (.ok .next) s₁
      | some v => wpAny (model Y.prog Y.w) Y.A (letOwnedTupleGo tg (.ref a) v) (fun _ s₁' => wpAny (model Y.prog Y.w) Y.A (assign tg Y.env v) (fun _ s₂ =>
          wpAny (model Y.prog Y.w) Y.A (forIn ifs true fun c r => if r = true then do let ok ← isTrue c Y.env (eval c Y.env); pure (ForInStep.yield ok) else pure (ForInStep.yield r)) (fun ok s₃ =>
            if ok = true then wpAny (model Y.prog Y.w) Y.A (eval elt Y.env) (fun x s₄ =>
              wpAny (model Y.prog Y.w) Y.A (call (.builtin "list.append") [.ref D, x]) (fun _ s₅ => ∃ m, m < rest.length ∧ ∃ rest', m = rest'.length ∧ LcG X Y F B D σ env vs gn a t tt el G1 ρ1 l μf fx rest' s₅) (fun _ _ => False) s₄) (fun _ _ => False) s₃
            else ∃ m, m < rest.length ∧ ∃ rest', m = rest'.length ∧ LcG X Y F B D σ env vs gn a t tt el G1 ρ1 l μf fx rest' s₃) (fun _ _ => False) s₂) (fun _ _ => False) s₁') (fun _ _ => False) s₁) Ef s := by
  obtain ⟨H', G', Gy, ρ', μ', us, acc, out, pv, gs, I, R0, ra, hz, hrun, hl, sG, pG, hgs, sl, sy, hgen, pvk, hHa, hpa⟩ := S.ex
  obtain ⟨eK, eM⟩ := hY
  have hDt : H' D = some (.lst us) := R0.delX.2.1
  have nx := next_ok (E := fun cls dd H'' => ∃ x G'', (fx = some x ∧ rest = []) ∧ Ext [] G' H' [] G'' H'' ∧ Same G'' H'' ∧ ExR F.T [] G'' H'' cls dd x) (Er := Ef) I st hh hd R0.gh sy pvk (fun b h1 h2 => hyg b h1 fun z => by rw [z, hDt] at h2; cases h2) sl hgs hgen ⟨hla, hHa, hpa⟩ (fun hr x hx cls dd G'' H'' e1 e2 e3 => ⟨x, G'', ⟨hx, hr⟩, e1, e2, e3⟩) fun e s1 hcx hpn' hg' => by
    obtain ⟨_, _, _, _, _, _, _, _, _, _, _, _, ⟨_, _, ⟨_, hr⟩, _⟩, _⟩ := id hcx
    subst hr
    unfold lcRun at hrun
    cases hrun
    exact fail s H' G' ρ' us pv e s1 I R0 sG pG pvk (cx_imp (fun _ _ _ ⟨⟨x, G'', z1, z2⟩, z3⟩ => ⟨⟨x, G'', z1.1, z2⟩, z3⟩) hcx) hpn' hg'
  refine wpAny_mono nx (fun r s2 hr => ?_) fun _ _ z => z
  obtain ⟨H2, G2, I2, sg2, ex2, gh2, hcase⟩ := hr
  have R2 : RD (tx X) (B.add D us) ρ' G2 H2 σ env μ' := rd_ext R0 ex2 gh2
  rcases hcase with ⟨rfl, hfx, rfl⟩ | ⟨d, rest', v, x, k, ll, c, p, fs, pv', rfl, rfl, rv, rx, hgs2, sl2, hgen2, pvk2, haH2, hpa2⟩
  · unfold lcRun at hrun
    cases hrun
    rw [List.append_nil] at hl
    subst hl
    exact done s2 H2 G2 ρ' us hfx I2 R2 (ra.mono sg2 (.refl _)) (Nat.le_of_lt (Nat.lt_of_le_of_lt (Nat.le_add_right _ _) hz)) (sG.trans sg2) pG
  · obtain ⟨oa, nm, qn, ha1, ha2, ha3, ha4⟩ := id hgen2
    show wpAny _ _ (letOwnedTupleGo tg (.ref a) v) _ _ s2
    refine go_of (n := "generator") ha1 ha2 ha3 (by decide) ?_
    -- the pins while the consumer's code runs
    have hF : F.L = F.L := rfl
    have hfs : ∀ b, F.L ≤ b → b ∉ Y.fs := fun b hb m => by
      have : b ∈ frs Y.stack := by
        rcases I2.ok.stk with e | ⟨e, hf⟩
        · rw [e]; exact m
        · rw [e]
          unfold frs
          rw [List.filterMap_cons, hf]
          exact List.mem_cons_of_mem _ m
      exact absurd (Nat.lt_of_lt_of_le (st.fr b this) hb) (Nat.lt_irrefl _)
    have I2p : Inv Y ((a, oa) :: pv') (wipe σ vs) H2 s2 := I2.pins_of fun q hq => by
      rcases List.mem_cons.mp hq with rfl | hq
      · exact ⟨ha1, haH2, hal, hfs a (Nat.le_of_lt hla), fun v z => by rw [ha3] at z; cases z⟩
      · obtain ⟨y1, y2, y3, y4, y5, y6⟩ := pvk2 q hq
        exact ⟨y1, y2, y5, hfs _ y3, y4⟩
    unfold lcRun at hrun
    split at hrun
    · cases hrun
    rename_i env1 he1
    have hout := gd.out _ _ _ he1
    have agE : ∀ j, j ∉ vs → env1[j]? = env[j]? := fun j hj => by rw [hout j fun m => hj (his j m), wipeD_out hj]
    have gdY : GD Y.K Y.mg g t is := by rw [eK, eM]; exact gd
    have TY : tx Y = tx X := by show (⟨Y.K, Y.mg⟩ : Tx) = ⟨X.K, X.mg⟩; rw [eK, eM]
    have eF : F.T = tx X := by
      obtain ⟨_, _, e3, e4, _⟩ := st.eq
      show (⟨F.K, F.mg⟩ : Tx) = ⟨X.K, X.mg⟩
      rw [e3, e4, eK, eM]
    have rxx : Rep (tx X) ρ' G2 x d := by
      rw [← eF]
      exact rx.mono (fun _ _ z => z) fun k a e => by simp at e
    have ht' : PTs Y ifs (rdT (tx X) (B.add D us) W0 tt) := by rw [← TY]; exact (ht (B.add D us)).run
    have he' : PE Y elt (rdE (tx X) (B.add D us) W0 el) := by rw [← TY]; exact (he (B.add D us)).run
    -- what stays of the generator
    have keepG : ∀ {s₀ s₁ s₃ : Shared} {σ' : L2.St} {H3 G3 : Hp}, s₀.gens[gn]? = some (.suspended k ll c p fs false) → Slept1 s₀.gens s₁ s₃ → Inv Y ((a, oa) :: pv') σ' H3 s₁ → Same G2 G3 →
        s₃.gens[gn]? = some (.suspended k ll c p fs false) ∧ s₃.heap.IsGen a gn ∧ PvOk Y [] F.L H3 s₃ pv' ∧ H3 a = none := by
      intro s₀ s₁ s₃ σ' H3 G3 h0 hs hI _
      have hh3 : s₃.heap = s₁.heap := by rw [hs.eq]
      have pa := hI.pin (a, oa) (List.mem_append_right _ List.mem_cons_self)
      refine ⟨hs.at_ _ _ _ _ _ _ _ h0, ⟨oa, nm, qn, by rw [hh3]; exact pa.1, ha2, ha3, ha4⟩, fun q hq => ?_, pa.2.1⟩
      obtain ⟨y1, y2, y3, y4, y5, y6⟩ := pvk2 q hq
      have pq := hI.pin q (List.mem_append_right _ (List.mem_cons_of_mem _ hq))
      exact ⟨by rw [hh3]; exact pq.1, pq.2.1, y3, y4, y5, y6⟩
    -- the target
    refine wpAny_mono (asleep (E := fun _ _ => False) I2p fun sa Ia _ => by
      have := hg.run _ sa (wipe σ vs) H2 x v (fun σ4 H4 => RD (tx X) (B.add D us) ρ' G2 H4 σ4 env1 μ' ∧ wipe σ4 vs = wipe σ vs ∧ ∀ j, j ∉ vs → σ4[j]? = σ[j]?) Ia rv (gdY.ok (B.add D us) ρ' G2 H2 (wipe σ vs) (wipeD env vs) μ' x d env1 _ (by rw [eK, eM]; exact R2.wipe vs) (by rw [eK, eM]; exact rxx) he1 fun σ4 R4 hw ho => ⟨by rw [eK, eM] at R4; exact R4, by rw [hw vs his]; exact wipe_wipe, fun j hj => by rw [ho j fun m => hj (his j m), wipe_out hj]⟩)
      rw [hxe] at this
      exact this) (fun _ s4 h4 => ?_) fun _ _ z => z
    obtain ⟨s4', hs4, σ4, H4, I4, R4, hw4, ag4⟩ := h4
    have I4r : Inv Y ((a, oa) :: pv') σ4 H4 s4 := hs4.inv I2.bare I4
    obtain ⟨kg4, _, _, _⟩ := keepG (G3 := G2) hgs2 hs4 I4 fun _ _ z => z
    -- how a turn ends
    have fin : ∀ {s5 : Shared} {H5 G5 : Hp} {ρ5 : List Addr} {μ5 : Mu} {us5 : List V} {acc5 out5 : List Dv.D}, Inv Y ((a, oa) :: pv') σ4 H5 s5 → s5.gens[gn]? = some (.suspended k ll c p fs false) → Same G2 G5 → Pre ρ' ρ5 → RD (tx X) (B.add D us5) ρ5 G5 H5 σ env μ5 → Reps (tx X) ρ5 G5 us5 acc5 → acc5.length ≤ acc.length + 1 →
        lcRun t tt el (wipeD env vs) rest' μ5 = some (out5, μf) → acc5 ++ out5 = l → ∃ m, m < (d :: rest').length ∧ ∃ rest', m = rest'.length ∧ LcG X Y F B D σ env vs gn a t tt el G1 ρ1 l μf fx rest' s5 := by
      intro s5 H5 G5 ρ5 μ5 us5 acc5 out5 I5 hg5 sg5 p5 R5 ra5 hz5 hr5 hl5
      have pa := I5.pin (a, oa) (List.mem_append_right _ List.mem_cons_self)
      refine ⟨rest'.length, by simp, rest', rfl, ⟨H5, G5, G2, ρ5, μ5, us5, acc5, out5, pv', _, ?_, R5, ra5, ?_, hr5, hl5, (sG.trans sg2).trans sg5, pG.trans p5, hg5, sl2, sg5, ⟨oa, nm, qn, pa.1, ha2, ha3, ha4⟩, fun q hq => ?_, pa.2.1, hpa2⟩⟩
      · refine (I5.pins_of (pins' := []) fun q hq => by cases hq).weak ?_ fun j w e => ?_
        · rw [wipe_length, I5.len]
          have := I2.len
          rw [wipe_length] at this
          exact this
        · rw [← hw4] at e
          exact (wipe_some e).1
      · simp at hz; omega
      · obtain ⟨y1, y2, y3, y4, y5, y6⟩ := pvk2 q hq
        have pq := I5.pin q (List.mem_append_right _ (List.mem_cons_of_mem _ hq))
        exact ⟨pq.1, pq.2.1, y3, y4, y5, y6⟩
    -- the tests
    refine wpAny_mono (asleep (E := fun _ _ => False) I4r fun sa Ia _ => by
      have := ht'.run _ sa σ4 H4 (fun b H5 => ∃ ρ5 G5 μ5, tt env1 μ' = some (.val b, μ5) ∧ Same G2 G5 ∧ Pre ρ' ρ5 ∧ RD (tx X) (B.add D us) ρ5 G5 H5 σ4 env1 μ5) Ia ⟨ρ', G2, env1, μ', R4, by
        split at hrun
        · rename_i μ5 h5
          rw [h5]
          exact fun ρ5 G5 H5 s5 p5 R5 => ⟨ρ5, G5, μ5, rfl, s5, p5, R5⟩
        · rename_i μ5 h5
          rw [h5]
          exact fun ρ5 G5 H5 s5 p5 R5 => ⟨ρ5, G5, μ5, rfl, s5, p5, R5⟩
        · cases hrun⟩
      rw [hxe] at this
      exact this) (fun ok s5 h5 => ?_) fun _ _ z => z
    obtain ⟨s5', hs5, H5, I5, ρ5, G5, μ5, ht5, sg5, p5, R5⟩ := h5
    have I5r : Inv Y ((a, oa) :: pv') σ4 H5 s5 := hs5.inv I4r.bare I5
    obtain ⟨kg5, _, _, _⟩ := keepG (G3 := G2) kg4 hs5 I5 fun _ _ z => z
    rw [ht5] at hrun
    cases ok with
    | false =>
      rw [if_neg (by decide)]
      exact fin I5r kg5 sg5 p5 (R0.back R5 (sg2.trans sg5) p5 no agE ag4) (ra.mono (sg2.trans sg5) p5) (Nat.le_succ _) hrun hl
    | true =>
      rw [if_pos rfl]
      dsimp only at hrun
      split at hrun
      · rename_i d' μ6 hel
        split at hrun
        · rename_i hb
          split at hrun
          · rename_i l3 μ7 hrest
            cases hrun
            refine wpAny_mono (asleep (E := fun _ _ => False) I5r fun sa Ia _ => by
              have := he'.run _ sa σ4 H5 (fun y H6 => ∃ ρ6 G6, Same G5 G6 ∧ Pre ρ5 ρ6 ∧ RD (tx X) (B.add D us) ρ6 G6 H6 σ4 env1 μ6 ∧ RepX (tx X) (B.add D us) ρ6 G6 H6 σ4 env1 y d') Ia ⟨ρ5, G5, env1, μ5, R5, by
                rw [hel]
                exact fun ρ6 G6 H6 s6 p6 R6 y hy => ⟨ρ6, G6, s6, p6, R6, hy⟩⟩
              rw [hxe] at this
              exact this) (fun xv s6 h6 => ?_) fun _ _ z => z
            obtain ⟨s6', hs6, y, H6, I6, ry, ρ6, G6, sg6, p6, R6, hy⟩ := h6
            have I6r : Inv Y ((a, oa) :: pv') σ4 H6 s6 := hs6.inv I5r.bare I6
            obtain ⟨kg6, _, _, _⟩ := keepG (G3 := G2) kg5 hs6 I6 fun _ _ z => z
            obtain ⟨G7, sg7, R7, hh⟩ := hy.hold R6
            have rr := hh.rep (hold_nobor hb)
            have S7 : Same G' G7 := ((sg2.trans sg5).trans sg6).trans sg7
            have R8 : RD (tx X) (B.add D us) ρ6 G7 H6 σ env μ6 := R0.back R7 S7 (p5.trans p6) no agE ag4
            have hD6 := R8.delX.2.1
            have hul : us.length = acc.length := ra.length
            have hz2 : us.length < sizeLine := by rw [sizeLine_eq, hul]; simp at hz; omega
            refine wpAny_mono (asleep (E := fun _ _ => False) I6r fun sa Ia _ => app_ok (X := Y) (y := y) (Q := fun _ s7 => Inv Y ((a, oa) :: pv') σ4 (upd H6 D (.lst (us ++ [y]))) s7) Ia hD6 hz2 ry fun s7 I7 => I7) (fun u s7 h7 => ?_) fun _ _ z => z
            obtain ⟨s7', hs7, I7⟩ := h7
            have I7r : Inv Y ((a, oa) :: pv') σ4 (upd H6 D (.lst (us ++ [y]))) s7 := hs7.inv I6r.bare I7
            obtain ⟨kg7, _, _, _⟩ := keepG (G3 := G2) kg6 hs7 I7 fun _ _ z => z
            exact fin I7r kg7 ((sg5.trans sg6).trans sg7) (p5.trans p6) R8.updX ((ra.mono S7 (p5.trans p6)).append (.one rr)) (by simp) hrest (by rw [← hl]; simp)
          · cases hrun
        · cases hrun
      · cases hrun
theorem compLoop_F {prog : Program} {w : World} {A : Around} {R : Result → Shared → Prop} {s : Shared} {elt target iter : Expr} {ifs : List Expr} {scope : Scope} {pos : Pos} {it acc : Value} {env : Env} (I : Nat → Shared → Prop)
    (turn : ∀ n s, I n s → wpAny (model prog w) A (pyNext it) (fun r s₁ => match r with
      | none => R (.ok .next) s₁
      | some v => wpAny (model prog w) A (letOwnedTupleGo target it v) (fun _ s₁' => wpAny (model prog w) A (assign target env v) (fun _ s₂ =>
          wpAny (model prog w) A (forIn ifs true fun c r => if r = true then do let ok ← isTrue c env (eval c env); pure (ForInStep.yield ok) else pure (ForInStep.yield r)) (fun ok s₃ =>
            if ok = true then wpAny (model prog w) A (eval elt env) (fun x s₄ => wpAny (model prog w) A (call (.builtin "list.append") [acc, x]) (fun _ s₅ => ∃ m, m < n ∧ I m s₅) (fun _ _ => False) s₄) (fun _ _ => False) s₃
            else ∃ m, m < n ∧ I m s₃) (fun _ _ => False) s₂) (fun _ _ => False) s₁') (fun _ _ => False) s₁) (notedBy (model prog w) A env fun e s' => R (.error e) s') s)
    (n : Nat) (h : I n s) : codeAny (model prog w) A (.compLoop (.ListComp elt [⟨target, iter, ifs, 0⟩] scope pos) 0 it acc env) R s := by
  refine compLoop_any I (fun n s hI => wpAny_mono (turn n s hI) (fun r s1 h1 => ?_) fun _ _ z => z) n h
  cases r with
  | none => exact h1
  | some v =>
    refine thnF h1 fun _ s2 h2 => thnF h2 fun _ s3 h3 => thnF h3 fun ok s4 h4 => ?_
    cases ok with
    | false => exact h4
    | true => exact thnF h4 fun x s5 h5 => thnF h5 fun _ _ z => z
/-- [elt for tg in g if ..], g a generator's call -/
def lcGFin (okx : Str → Bool) (tg : DTg) (tt : DEnv → Mu → Res Bool) (el : DEx) (env : DEnv) (q : List D × Option Exn) (μ : Mu) : Res D := if q.1.length < 16777216 then (match q.2 with
  | none => lcFin tg tt el env q.1 μ
  | some x => if okx x.cls = true then (match lcRun tg tt el env q.1 μ with
    | some (_, μ') => some (.exc x, μ')
    | none => none) else none) else none
def dLcG (okx : Str → Bool) (it : DEnv → Mu → GRes) (own : List Nat) (tg : DTg) (tt : DEnv → Mu → Res Bool) (el : DEx) : DEx := fun env μ => if noOwn env own then bindR (it env μ) (lcGFin okx tg tt el (wipeD env own)) else none
theorem lcG_core {pins : List (Addr × Obj)} {s : Shared} {σ : L2.St} {H : Hp} {Q : VK} {elt tg iter : Expr} {ifs : List Expr} {scope : Scope} {own : List (Str × Nat)} {pos pos' : Pos} {g : TG} {t : DTg} {is : List Nat} {tt : DEnv → Mu → Res Bool} {el : DEx} {k : Nat} {it : DEnv → Mu → GRes} {use : Option (Value → Sem Unit)} {Qf : Value → Shared → Prop} {okx : Str → Bool}
    (hx : (∀ c, okx c = false) ∨ (X.stack = X.env :: X.outer ∧ X.env.frame = some X.env.locals ∧ Takes X W ∧ NoStops X.K X.mg okx)) (hc : X.calm = true) (hN : X.N.Nodup) (hr : Room (k + 1) X.A) (I : Inv X pins σ H s) (hi : DGen X B W k iter it) (ok : BlkOk X.N X.env.scope scope own) (hnc : ∀ y ∈ scope.names, y.2 ≠ .cell) (gd : GD X.K X.mg g t is) (his : ∀ i ∈ is, i ∈ own.map (·.2))
    (hg : ∀ (s : Shared) (H : Hp) (C : Addr) (cl : List (Str × Addr)) (fp : List Addr), PG (X.blk s H scope (compEnvC scope cl C X.env) fp) tg g) (ht : ∀ (s : Shared) (H : Hp) (C : Addr) (cl : List (Str × Addr)) (fp : List Addr) (B : Bs), DTs (X.blk s H scope (compEnvC scope cl C X.env) fp) B W0 ifs tt)
    (he : ∀ (s : Shared) (H : Hp) (C : Addr) (cl : List (Str × Addr)) (fp : List Addr) (B : Bs), DE (X.blk s H scope (compEnvC scope cl C X.env) fp) B W0 elt el) (hs : ∀ x, foldedSetIterable iter X.env x = pure x)
    (h : rdE (tx X) B W (dLcG okx it (own.map (·.2)) t tt el) σ H Q)
    (hRR : ∀ D (ce : Env) s' m H', Inv X pins σ H' s' → Q (.ref D) H' → s'.heap.Ns ce.locals m → FpOk X pins H' ce.locals → compEnds (model X.prog X.w) X.A X.xe use Qf (.ref D) ce (.ok .next) s') :
    wpAny (model X.prog X.w) X.A (comprehension (.ListComp elt [⟨tg, iter, ifs, 0⟩] scope pos) scope X.env pos' (newList []) false (eval iter X.env) use) Qf X.xe s := by
  obtain ⟨ρ, G, env, μ, R, kk⟩ := h
  unfold dLcG at kk
  split at kk
  · rename_i no
    have hfree : ∀ y ∈ scope.names, y.2 = .free → ∃ c, X.env.cells.lookup y.1 = some c := fun y hy e => by
      rcases ok.free y hy e with k | k
      · exact I.ok.has _ (.inl k)
      · exact I.ok.has _ (.inr k)
    refine comprehension_at (use := use) rfl hs (closure_ok hfree) ok.kind (fun y hy e => by rw [ok.uniq y hy, e])
      (thn (hi.run pins s σ H ρ G env μ _ I R (KE.bind (f := lcGFin okx t tt el (wipeD env (own.map (·.2)))) kk)) fun xv s1 hx => ?_)
    obtain ⟨ρ1, G1, H1, μ1, ys, fin, sc, a, gn, c, mk, oL, k1, sg, pr, R1, Isc, rfl, N⟩ := hx
    refine wpAny_pyIter_gen N.gen ?_
    have I1 := N.inv Isc
    unfold lcGFin at k1
    split at k1
    · rename_i hlen
      have key : ∃ l μf, lcRun t tt el (wipeD env (own.map (·.2))) ys μ1 = some (l, μf) ∧ (fin = none → KE (tx X) B σ env W (PX (tx X) B σ env Q) ρ1 G1 (ret (.new l) μf)) ∧ ∀ x, fin = some x → okx x.cls = true ∧ KE (tx X) B σ env W (PX (tx X) B σ env Q) ρ1 G1 (some (.exc x, μf)) := by
        split at k1
        · rename_i hfin
          have hfin : fin = none := hfin
          unfold lcFin at k1
          split at k1
          · rename_i l μf hrun
            exact ⟨l, μf, hrun, fun _ => k1, fun x hx => by rw [hfin] at hx; cases hx⟩
          · exact k1.elim
        · rename_i x hfin
          have hfin : fin = some x := hfin
          split at k1
          · rename_i hok
            split at k1
            · rename_i l μf hrun
              exact ⟨l, μf, hrun, fun h => by (rw [hfin] at h; cases h), fun y hy => by rw [hfin] at hy; cases hy; exact ⟨hok, k1⟩⟩
            · exact k1.elim
          · exact k1.elim
      obtain ⟨l, μf, hrun, knone, ksome⟩ := key

      refine wpAny_newObj_type (newEnv_comp ?_) (by show 0 ≤ sizeLine; decide)
      generalize hD : s1.heap.objs.size = D
      have hDn : H1 D = none := I1.hok.fresh (Nat.le_of_eq hD)
      have haD : a < D := by rw [← hD]; exact N.lt.2
      have hLD : sc.heap.objs.size < D := Nat.lt_trans N.lt.1 haD
      generalize hs3 : ({ s1 with heap := s1.heap.push { cls := .type "list", data := .seq ([] : List Value).toArray } } : Shared) = s3
      have I3 : Inv X pins σ (upd H1 D (.lst [])) s3 := by
        rw [← hs3]
        refine I1.laid (t' := s1.toks) (fun b o e => Heap.get?_push_of_some _ e) (Nat.le_of_eq hD) ⟨Nat.zero_le _, [], 0, .nil, ?_⟩
        rw [← hD]
        exact Heap.get?_push_size _ rfl
      have h3 : s3.heap = s1.heap.push { cls := .type "list", data := .seq ([] : List Value).toArray } := by rw [← hs3]
      have sz3 : s3.heap.objs.size = D + 1 := by rw [h3, Heap.size_push, hD]
      have none3 : ∀ b, sc.heap.objs.size ≤ b → b ≠ D → (upd H1 D (.lst [])) b = none := fun b hb hne => by rw [upd_ne hne]; exact Isc.hok.fresh hb
      generalize hfp : ((List.range D).filter fun b => decide (sc.heap.objs.size ≤ b)) = fp
      have mfp : ∀ b, b ∈ fp ↔ b < D ∧ sc.heap.objs.size ≤ b := fun b => by rw [← hfp, List.mem_filter, List.mem_range]; simp
      have f3 : ∀ b ∈ fp, FpOk X pins (upd H1 D (.lst [])) b ∧ b < s3.heap.objs.size := fun b hb => by
        obtain ⟨h1, h2⟩ := (mfp b).mp hb
        exact ⟨Isc.fpOk h2 (none3 b h2 (Nat.ne_of_lt h1)), by rw [sz3]; exact Nat.lt_succ_of_lt h1⟩
      have I4 := block_start I3 ok hN f3
      have pg := hg s3 (upd H1 D (.lst [])) s3.heap.objs.size (cellsFrom (s3.heap.objs.size + 1) scope.names (cloFrom X.env.cells scope.names [])) fp
      have pt := ht s3 (upd H1 D (.lst [])) s3.heap.objs.size (cellsFrom (s3.heap.objs.size + 1) scope.names (cloFrom X.env.cells scope.names [])) fp
      have pe := he s3 (upd H1 D (.lst [])) s3.heap.objs.size (cellsFrom (s3.heap.objs.size + 1) scope.names (cloFrom X.env.cells scope.names [])) fp
      show codeAny _ _ (.compStart (.ListComp elt [⟨tg, iter, ifs, 0⟩] scope pos) 0 (.ref a) (.ref D) (compEnvC scope (cellsFrom (s3.heap.objs.size + 1) scope.names (cloFrom X.env.cells scope.names [])) s3.heap.objs.size X.env)) (compEnds (model X.prog X.w) X.A X.xe use Qf (.ref D) (compEnvC scope (cellsFrom (s3.heap.objs.size + 1) scope.names (cloFrom X.env.cells scope.names [])) s3.heap.objs.size X.env)) { s3 with heap := pushCells (s3.heap.push { cls := .type "dict", data := .dict #[] }) scope.names }
      have hcells : (compEnvC scope (cellsFrom (s3.heap.objs.size + 1) scope.names (cloFrom X.env.cells scope.names [])) s3.heap.objs.size X.env).cells = cloFrom X.env.cells scope.names [] := cellsFrom_same _ _ _ hnc
      generalize hce : compEnvC scope (cellsFrom (s3.heap.objs.size + 1) scope.names (cloFrom X.env.cells scope.names [])) s3.heap.objs.size X.env = ce at I4 pg pt pe hcells ⊢
      have cL : ce.locals = s3.heap.objs.size := by subst hce; rfl
      have cF : ce.frame = X.env.frame := by subst hce; rfl
      generalize hH3 : upd H1 D (.lst []) = H3 at I3 I4 pg pt pe none3 f3
      generalize hs4 : ({ s3 with heap := pushCells (s3.heap.push { cls := .type "dict", data := .dict #[] }) scope.names } : Shared) = s4 at I4 ⊢
      have keep4 : ∀ b o, s1.heap.get? b = some o → s4.heap.get? b = some o := fun b o e => by
        rw [← hs4]
        refine pushCells_keeps _ _ _ _ (Heap.get?_push_of_some _ ?_)
        rw [h3]
        exact Heap.get?_push_of_some _ e
      have gens4 : s4.gens = s1.gens := by rw [← hs4, ← hs3]
      obtain ⟨N', q', sco', f', cd', hmk⟩ := N.at_ X.A.in1
      obtain ⟨fok, sl⟩ := N.sl X.A.in1 hr.in1 I.ok.frames
      have hFL : (mk X.A.in1).L = sc.heap.objs.size := by rw [hmk]
      have seat : Seat (X.blk s3 H3 scope ce fp) (mk X.A.in1) := by
        refine ⟨by rw [hmk]; exact ⟨rfl, rfl, rfl, rfl, rfl, rfl, rfl⟩, fok, fun b hb => ?_, fun x cc hcc => ?_⟩
        · rw [hFL]
          obtain ⟨_, o, ho, _⟩ := Isc.stack.mem (show b ∈ frs X.stack from hb)
          exact Heap.lt_size ho
        · rw [hFL]
          have e : ce.cells.lookup x = some cc := hcc
          rw [hcells] at e
          rcases cloFrom_mem (PySem.mem_of_lookup e) with hm | ⟨h1, h2⟩
          · cases hm
          · obtain ⟨c', hc'⟩ := hfree _ h1 rfl
            rw [hc'] at h2
            have h2 : cc = c' := h2
            obtain ⟨v, z⟩ := Isc.cell _ _ hc'
            rw [h2]
            exact z.lt
      have isg : s4.heap.IsGen a gn := by
        obtain ⟨o, nm, qn, e1, e2⟩ := N.gen
        exact ⟨o, nm, qn, keep4 _ _ e1, e2⟩
      have hL3 : H3 sc.heap.objs.size = none := none3 _ (Nat.le_refl _) (Nat.ne_of_lt hLD)
      have ha3 : H3 a = none := none3 _ (Nat.le_of_lt N.lt.1) (Nat.ne_of_lt haD)
      have hLl : sc.heap.objs.size ≠ s3.heap.objs.size := by rw [sz3]; exact Nat.ne_of_lt (Nat.lt_succ_of_lt hLD)
      have hal : a ≠ s3.heap.objs.size := by rw [sz3]; exact Nat.ne_of_lt (Nat.lt_succ_of_lt haD)
      have start : LcG X (X.blk s3 H3 scope ce fp) (mk X.A.in1) B D σ env (own.map (·.2)) gn a t tt el G1 ρ1 l μf fin ys s4 := by
        refine ⟨H3, G1, G1, ρ1, μ1, [], [], l, [(sc.heap.objs.size, oL)], .fresh c, I4, ?_, .nil, by simpa using hlen, hrun, rfl, fun _ _ z => z, .refl _, by rw [gens4]; exact N.st, sl, fun _ _ z => z, isg, fun q hq => ?_, ha3, fun q hq => ?_⟩
        · rw [← hH3]
          obtain ⟨gD, pD, bD⟩ := R1.fresh_ hDn
          refine (R1.allocN hDn).addX upd_same gD pD bD (fun i l' e1 e2 => ?_) fun q hq e => ?_
          · obtain ⟨q, us, e3, e4, _⟩ := R1.slot i _ e1
            rw [e2] at e3; cases e3
            rw [hDn] at e4; cases e4
          · have e1 := (R1.xo q hq).1
            rw [e, hDn] at e1; cases e1
        · rw [List.mem_singleton.mp hq]
          refine ⟨keep4 _ _ N.fr, hL3, by rw [hFL]; exact Nat.le_refl _, N.nc, ?_, fun p hp => ?_⟩
          · show sc.heap.objs.size ≠ ce.locals
            rw [cL]; exact hLl
          · simp at hp
        · rw [List.mem_singleton.mp hq]; exact Nat.ne_of_lt N.lt.1
      have turns : codeAny (model X.prog X.w) X.A (.compLoop (.ListComp elt [⟨tg, iter, ifs, 0⟩] scope pos) 0 (.ref a) (.ref D) ce) (compEnds (model X.prog X.w) X.A X.xe use Qf (.ref D) ce) s4 := by
        refine compLoop_F (fun n s' => ∃ rest, n = rest.length ∧ LcG X (X.blk s3 H3 scope ce fp) (mk X.A.in1) B D σ env (own.map (·.2)) gn a t tt el G1 ρ1 l μf fin rest s') ?_ ys.length ⟨ys, rfl, start⟩
        rintro n s' ⟨rest, rfl, S⟩
        refine lcG_turn (X := X) (Y := X.blk s3 H3 scope ce fp) (iter := iter) (scope := scope) (pos := pos) (R := compEnds (model X.prog X.w) X.A X.xe use Qf (.ref D) ce) ⟨rfl, rfl⟩ seat hc hr.hd hr.depth (fun b h1 h2 => ?_) rfl (by rw [hFL]; exact N.lt.1) (by show a ≠ ce.locals; rw [cL]; exact hal) gd his no pg pt pe rfl S ?_ fun s6 H6 G6 ρ6 us6 hfin I6 R6 ra6 z6 sg6 p6 => ?_
        · rw [hFL] at h1
          by_cases hb : b < D
          · exact .inl ((mfp b).mpr ⟨hb, h1⟩)
          · right
            show s3.heap.objs.size ≤ b
            rw [sz3]
            exact Nat.lt_of_le_of_ne (Nat.le_of_not_lt hb) (Ne.symm h2)
        · intro s6 H6 G6 ρ6 us6 pv e s7 I6 R6 sg6 p6 pvk cx hpn hgen
          obtain ⟨_, _, _, _, _, _, _, _, _, _, _, _, ⟨x0, _, hfin, _⟩, _⟩ := id cx
          obtain ⟨hok, kx⟩ := ksome x0 hfin
          rcases hx with hx | ⟨hst, hfr, tk, hns⟩
          · rw [hx] at hok; cases hok
          have hFl : sc.heap.objs.size = (mk X.A.in1).L := hFL.symm
          have below : ∀ {b o}, sc.heap.get? b = some o → b < sc.heap.objs.size := fun e => Heap.lt_size e
          have to3 : ∀ {b o}, sc.heap.get? b = some o → s3.heap.get? b = some o := fun {b o} e => by rw [h3]; exact Heap.get?_push_of_some _ (N.keep _ _ e)
          have nD : ∀ {b o}, sc.heap.get? b = some o → H3 b = H1 b := fun {b o} e => by rw [← hH3]; exact upd_ne (Nat.ne_of_lt (Nat.lt_trans (below e) hLD))
          have nfp : ∀ {b o}, sc.heap.get? b = some o → b ∉ fp := fun {b o} e hm => absurd (below e) (Nat.not_lt.mpr ((mfp b).mp hm).2)
          have ub : Un (frs X.stack) fp H3 H6 s3.heap s6.heap := I6.base
          have un : Un (frs X.stack) [] H1 H6 sc.heap s6.heap := by
            refine ⟨fun b o e n hf _ => ub.keep b o (to3 e) ((nD e).trans n) hf (nfp e), fun b o e n hf _ => ub.slot b o (to3 e) ((nD e).trans n) hf (nfp e), fun b o e n _ => ub.free b o (to3 e) ((nD e).trans n) (nfp e), fun b o e _ => ub.there b o (to3 e) (nfp e), fun b xs e => ?_, fun b o u e => ?_, fun b ps e => ?_⟩
            · exact ub.tups b xs (by rw [← hH3, upd_ne (fun z => by rw [z, hDn] at e; cases e)]; exact e)
            · exact ub.frzs b o u (by rw [← hH3, upd_ne (fun z => by rw [z, hDn] at e; cases e)]; exact e)
            · exact ub.tbls b ps (by rw [← hH3, upd_ne (fun z => by rw [z, hDn] at e; cases e)]; exact e)
          have os6 : s6.os = sc.os := (show s6.os = s3.os from I6.os).trans (I3.os.trans Isc.os.symm)
          obtain ⟨m, hn, _⟩ := I6.loc
          have hn : s6.heap.Ns ce.locals m := hn
          obtain ⟨oC, es, ep, hC1, hC2, hC3⟩ := id hn
          have nC : H6 ce.locals = none := I6.free
          have memC : (ce.locals, oC) ∈ pnAll s6 H6 (mk X.A.in1).L pv := mem_pnAll.mpr ⟨hC1, by rw [hFL, cL, sz3]; exact Nat.lt_succ_of_lt hLD, nC, fun v z => (by rw [hC2] at z; cases z), fun q hq => (pvk q hq).2.2.2.2.1⟩
          obtain ⟨R0, _⟩ := R6.delX
          have eF : (mk X.A.in1).T = tx X := by rw [hmk]
          have cx2 : CX X.prog X.w X.stack H1 sc (fun cls d H' => (W cls d σ H' ∧ PySem.W.subIn X.K cls (.type "StopIteration") = some false) ∧ H' ce.locals = none) e s7 := by
            refine cx_cut (fun b hb => Isc.stkFree b hb) un hFl os6 (cx_imp (fun cls dd H'' hE => ?_) cx)
            obtain ⟨⟨x, G'', z1, z2, z3, z4⟩, z5⟩ := hE
            rw [hfin] at z1; cases z1
            rw [eF] at z4
            obtain ⟨C, d, vf, rfl, hm, w1⟩ := id z4
            refine ⟨⟨kx ρ6 G'' H'' _ dd (sg6.trans z2.gg) p6 (rd_ext R0 z2 z3) ?_, hns _ _ hok hm⟩, z5 _ memC⟩
            obtain ⟨C2, d2, vf2, e1, e2, e3, e4, e5⟩ := z4
            exact ⟨C2, d2, vf2, e1, e2, e3, e4, e5.mono (fun _ _ z => z) fun k a e => by simp at e⟩
          have kin : X.K.In s7.heap := by
            obtain ⟨a, B, H', cls, d, _, fl, _, ub, _⟩ := id cx2
            refine Isc.ok.mod.kin.keeps fun b o eb => fl.1 b o (ub.keep b o (Isc.bs b o eb).1 (Isc.bs b o eb).2 fun hm => ?_)
            have := (Isc.stack.mem hm).1
            rw [eb] at this; cases this
          refine ⟨notStop_of (fun cls d H hE => hE.1.2) kin cx2, ?_⟩
          refine comp_fails (s1 := s7.setGen gn .finished) (m := m) (E := fun cls d H' => W cls d σ H' ∧ PySem.W.subIn X.K cls (.type "StopIteration") = some false) Isc hst hfr cF ?_ ⟨oC, es, ep, hpn _ memC, hC2, hC3⟩ ?_ ?_ (fun cls d H' h => h.1) tk
          · cases q : sc.heap.get? ce.locals with
            | none => rfl
            | some o => exact absurd (below q) (by rw [cL, sz3]; exact Nat.not_lt.mpr (Nat.le_succ_of_le (Nat.le_of_lt hLD)))
          · intro hm
            obtain ⟨_, o, ho, _⟩ := Isc.stack.mem hm
            exact absurd (below ho) (by rw [cL, sz3]; exact Nat.not_lt.mpr (Nat.le_succ_of_le (Nat.le_of_lt hLD)))
          · obtain ⟨a, B, H', cls, d, z1, fl, z2, ub, z3, z4, z5, z6⟩ := cx2
            exact ⟨a, B, H', cls, d, z1, fl, z2, ub, z3, z4, allBare_setGen z5 rfl, z6⟩
        · have I7 : Inv X pins σ H6 s6 := I3.call' (ch := fp) I6.os I6.base I6.hok I6.bare fun b hb => ⟨(f3 b hb).1.2.2.2.1, (f3 b hb).1.2.1, (f3 b hb).1.2.2.2.2.1, (f3 b hb).1.2.2.2.2.2⟩
          have nC : H6 s3.heap.objs.size = none := by
            have z : H6 ce.locals = none := I6.free
            rw [cL] at z
            exact z
          obtain ⟨m, hn, _⟩ := I6.loc
          have hn : s6.heap.Ns ce.locals m := hn
          rw [cL] at hn
          obtain ⟨R0, h1, h2, h3', h4, h5, h6⟩ := R6.delX
          refine hRR D ce s6 m H6 I7 (knone hfin ρ6 G6 H6 sg6 p6 R0 _ ⟨D, us6, rfl, h1, ra6, z6, h2, h3', h4, h5, h6⟩) (by rw [cL]; exact hn) ?_
          rw [cL]; exact I3.fpOk (Nat.le_refl _) nC
      exact codeAny_compStart_list turns (wpAny_pyIter_gen isg turns)
    · exact k1.elim
  · exact kk.elim
theorem de_lcG {elt tg iter : Expr} {ifs : List Expr} {scope : Scope} {own : List (Str × Nat)} {pos : Pos} {g : TG} {t : DTg} {is : List Nat} {tt : DEnv → Mu → Res Bool} {el : DEx} {k : Nat} {it : DEnv → Mu → GRes} {okx : Str → Bool} (hx : (∀ c, okx c = false) ∨ (X.stack = X.env :: X.outer ∧ X.env.frame = some X.env.locals ∧ Takes X W ∧ NoStops X.K X.mg okx)) (hc : X.calm = true) (hN : X.N.Nodup) (hr : Room (k + 1) X.A) (hi : DGen X B W k iter it) (ok : BlkOk X.N X.env.scope scope own) (hnc : ∀ y ∈ scope.names, y.2 ≠ .cell) (gd : GD X.K X.mg g t is) (his : ∀ i ∈ is, i ∈ own.map (·.2))
    (hg : ∀ (s : Shared) (H : Hp) (C : Addr) (cl : List (Str × Addr)) (fp : List Addr), PG (X.blk s H scope (compEnvC scope cl C X.env) fp) tg g) (ht : ∀ (s : Shared) (H : Hp) (C : Addr) (cl : List (Str × Addr)) (fp : List Addr) (B : Bs), DTs (X.blk s H scope (compEnvC scope cl C X.env) fp) B W0 ifs tt)
    (he : ∀ (s : Shared) (H : Hp) (C : Addr) (cl : List (Str × Addr)) (fp : List Addr) (B : Bs), DE (X.blk s H scope (compEnvC scope cl C X.env) fp) B W0 elt el) (hs : ∀ x, foldedSetIterable iter X.env x = pure x := by intro _; rfl) :
    DE X B W (.ListComp elt [⟨tg, iter, ifs, 0⟩] scope pos) (dLcG okx it (own.map (·.2)) t tt el) := by
  refine ⟨⟨fun pins s σ H Q I h => ?_⟩⟩
  rw [eval_ListComp]
  refine lcG_core hx hc hN hr I hi ok hnc gd his hg ht he hs h fun D C s' m H' I' q hn f => ⟨m, hn, fun h'' sb => ?_⟩
  obtain ⟨f0, f1, f2, f3, f4, f5⟩ := f
  exact ⟨.ref D, H', I'.turned (t' := s'.toks) (fun b o hb e => (sb.2 b hb).trans e) f0 f1 f3 f4 f5, rfl, q⟩
end
end Gw

/-! DyQH: list(g). -/
namespace Gw
open PySem PySem.Spec PyProof.Rows L2 GenW Dv

theorem funs_un {base h h' : Heap} {H H' : Hp} {fs : List Addr} (u : Un fs [] H H' h h') : ∀ (l : List Env), (∀ b ∈ frs l, b ∈ fs ∧ H b = none) → h.FunFrames base l → h'.FunFrames base l
  | [], _, _ => trivial
  | env :: r, hl, hf => by
    obtain ⟨hk, ⟨b, o, hb, hn, ho, hd⟩, hr⟩ := hf
    have e : frs (env :: r) = b :: frs r := by unfold frs; rw [List.filterMap_cons, hb]
    obtain ⟨m1, m2⟩ := hl b (by rw [e]; exact List.mem_cons_self)
    obtain ⟨sl, q⟩ := u.slot b o ho m2 m1 (by simp)
    exact ⟨hk, ⟨b, _, hb, hn, q, hd⟩, funs_un u r (fun z hz => hl z (by rw [e]; exact List.mem_cons_of_mem _ hz)) hr⟩
theorem env0_un {P : Program} {w : World} {K : PySem.W.Frag} {mg : Str → Option Value} {base : Heap} {A A' : Around} {outer : List Env} {sc s : Shared} {H H' : Hp} (e0 : Env0 P w K mg base A outer sc H) (hf : A'.frames = some outer) (u : Un (frs outer) [] H H' sc.heap s.heap) (hok : HOk P w H' s.heap) (hb : AllBare s.gens) (sz : sc.heap.objs.size ≤ s.heap.objs.size) : Env0 P w K mg base A' outer s H' := by
  refine ⟨hf, e0.mod, fun b o q => ?_, Nat.le_trans e0.bsz sz, funs_un u outer (fun b hb => ⟨hb, e0.frf b hb⟩) e0.funs, fun b hb => ?_, hok, hb⟩
  · obtain ⟨q1, q2⟩ := e0.bs b o q
    have nf : b ∉ frs outer := fun m => by
      have := (e0.funs.mem m).1
      rw [q] at this; cases this
    exact ⟨u.keep b o q1 q2 nf (by simp), u.free b o q1 q2 (by simp)⟩
  · obtain ⟨_, o, ho, _⟩ := e0.funs.mem hb
    exact u.free b o ho (e0.frf b hb) (by simp)
theorem un_cut {fs : List Addr} {H Hi H' : Hp} {L : Nat} {h hi h' : Heap} (u : Un fs [] H Hi h hi) (sz : h.objs.size = L) (v : Un fs [] Hi H' (cutH hi L) h') : Un fs [] H H' h h' := by
  have low : ∀ {b o}, h.get? b = some o → ∀ {o'}, hi.get? b = some o' → (cutH hi L).get? b = some o' := fun {b o} e {o'} e' => (cutH_at (by rw [← sz]; exact Heap.lt_size e)).trans e'
  refine ⟨fun b o e n hf hx => ?_, fun b o e n hf hx => ?_, fun b o e n hx => ?_, fun b o e hx => ?_, fun b xs q => v.tups b xs (u.tups b xs q), fun b o x q => v.frzs b o x (u.frzs b o x q), fun b ps q => ?_⟩
  · exact v.keep b o (low e (u.keep b o e n hf hx)) (u.free b o e n hx) hf hx
  · obtain ⟨sl, e1⟩ := u.slot b o e n hf hx
    obtain ⟨sl2, e2⟩ := v.slot b _ (low e e1) (u.free b o e n hx) hf hx
    exact ⟨sl2, e2⟩
  · obtain ⟨o', e1⟩ := u.there b o e hx
    exact v.free b o' (low e e1) (u.free b o e n hx) hx
  · obtain ⟨o', e1⟩ := u.there b o e hx
    exact v.there b o' (low e e1) hx
  · obtain ⟨m1, e1⟩ := u.tbls b ps q
    obtain ⟨m2, e2⟩ := v.tbls b _ e1
    exact ⟨m1 ++ m2, by rw [e2, Array.append_assoc]⟩
theorem seg_of1 {M : Model} {A : Around} {R1 : EndR} {S1 : EndS} {R : GenEnd} {Y : Protocol} {n : Nat} {s₀ : Shared} {c : Code} {t : Sem PySem.Fin} {fs : List Frame} {s : Shared} (h : Seg1 M A R1 S1 c t fs s) (hR : ∀ r s', R1 r s' → R n s₀ r s')
    (hS : ∀ v k l c p fs s', S1 v (.suspended k l c p fs false) s' → ∃ m, n = m + 1 ∧ Y m s₀ v s' fun r s'' => Seg M A R Y m s'' c (k r) fs s'') : Seg M A R Y n s₀ c t fs s := by
  rw [seg_iff]
  intro Γ p h1 h2
  obtain ⟨e, s', hr, he⟩ := h Γ p h1 h2
  refine ⟨e, s', hr, ?_⟩
  cases e with
  | ret r => exact hR _ _ he
  | susp v g l k c p fs =>
    obtain ⟨q1, q2⟩ := he
    obtain ⟨m, rfl, hy⟩ := hS v k l c p fs s' q2
    exact ⟨by show (!(g || fs.any Frame.guarded)) = true; rw [q1]; rfl, hy⟩
/-- drained by its consumer's list at S -/
theorem seg_drain {F : GF} {fin : Option Exn} {S a : Addr} {g : Nat} {sc : Shared} {H G : Hp} {Qc : List V → Hp → Prop} {E : XK} {A0 : Around} {all : List D} (ok : FOk F) (hsz : sc.heap.objs.size = F.L) (e0 : Env0 F.P F.w F.K F.mg F.base A0 F.outer sc H) (hA : F.A.frames = some F.outer) (hSL : F.L < S) (haL : F.L < a) (haS : a ≠ S)
    (hQ : fin = none → ∀ vs H' G', Ext [] G H [] G' H' → Same G' H' → Reps F.T [] G' vs all → Qc vs H') (hE : ∀ x, fin = some x → ∀ cls dd G' H', Ext [] G H [] G' H' → Same G' H' → ExR F.T [] G' H' cls dd x → E cls dd H') :
    ∀ (rest : List D) (n : Nat) (s₀ s : Shared) (Hi Gi Gy : Hp) (acc : Array Value) (cc : Nat) (us : List V) (dn : List D) (c : Code) (t : Sem PySem.Fin) (fs : List Frame) (ip : List (Addr × Obj)) (env : DEnv) (σ : L2.St) (oL : Obj), n + acc.size = sizeLine → rest.length ≤ n → dn ++ rest = all → GoesD F fin rest c t fs ip env Gy → Priv F ip σ env Gy oL → s.os = sc.os → AllBare s.gens →
      Un (frs F.outer) [] H Hi sc.heap s.heap → HOk F.P F.w Hi s.heap → Same Gi Hi → Same Gy Gi → Ext [] G H [] Gi Hi → s.heap.get? S = some (lstObj acc cc) → Hi S = none → Vals us acc.toList → Reps F.T [] Gi us dn → s.heap.IsGen a g → Hi a = none → (∀ q ∈ (F.L, oL) :: ip, s.heap.get? q.1 = some q.2 ∧ Hi q.1 = none ∧ q.1 ≠ S ∧ q.1 ≠ a) →
      Seg (model F.P F.w) F.A (REnd F.P F.w F.outer H sc [] S a g Qc E) (YItem sc S a g) n s₀ c t fs s := by
  have hfr : ∀ b ∈ frs F.outer, b < F.L := fun b hb => by
    obtain ⟨_, o, ho, _⟩ := e0.funs.mem hb
    rw [← hsz]; exact Heap.lt_size ho
  intro rest
  induction rest with
  | nil =>
    intro n s₀ s Hi Gi Gy acc cc us dn c t fs ip env σ oL hn hlen hall go pr hos hbare un hok gh sy ext hS hSn rv rs hg haN hpv
    have lt : F.L < s.heap.objs.size := Heap.lt_size (hpv _ List.mem_cons_self).1
    have e1 := env0_un e0 hA un hok hbare (by rw [hsz]; exact Nat.le_of_lt lt)
    have inn := wake (E := E) (pn := pnAll s Hi F.L ((F.L, oL) :: ip)) ok e1 hfr pr (fun q hq => ⟨(hpv q hq).1, (hpv q hq).2.1⟩) sy gh fun p hp => by
      obtain ⟨z1, z2, z3, z4, z5⟩ := mem_pnAll.mp hp
      exact ⟨z1, z3, Nat.ne_of_gt z2, fun m => absurd (Nat.lt_trans z2 (hfr _ m)) (Nat.lt_irrefl _), z4⟩
    have run := go _ _ _ E _ _ _ _ _ inn (fun p hp q hq z => (mem_pnAll.mp hp).2.2.2.2 q (List.mem_cons_of_mem _ hq) z.symm) (fun _ x hx cls dd G' H' e' gh' => hE x hx cls dd G' H' (ext.trans e') gh') sy
    have mS : (S, lstObj acc cc) ∈ pnAll s Hi F.L ((F.L, oL) :: ip) := mem_pnAll.mpr ⟨hS, hSL, hSn, fun v z => (by cases z), fun q hq => (hpv q hq).2.2.1⟩
    obtain ⟨oa, nm, qn, g1, g2, g3, g4⟩ := id hg
    have ma : (a, oa) ∈ pnAll s Hi F.L ((F.L, oL) :: ip) := mem_pnAll.mpr ⟨g1, haL, haN, fun v z => (by rw [g3] at z; cases z), fun q hq => (hpv q hq).2.2.2⟩
    refine seg_of1 run (fun r s' hr => ?_) fun v k l c p fs s' hs => by
      obtain ⟨_, _, z, _⟩ := hs
      cases z
    rcases hr with ⟨_, hfin, hr, H', G', P⟩ | ⟨e, rfl, cx, hp⟩
    · have pS := P.pin _ mS
      refine .inl ⟨hr, H', us, acc, cc, P.os.trans hos, P.bare, un_cut un hsz P.base, P.hok, pS.2, pS.1, rv, ?_, hQ hfin us H' G' (ext.trans P.ext) P.gh ?_⟩
      · have e2 := rv.length
        simp at e2
        omega
      · rw [List.append_nil] at hall
        rw [← hall]
        exact rs.mono P.ext.gg (.refl _)
    · exact .inr ⟨e, rfl, cx_cut e0.frf un hsz hos (cx_imp (fun _ _ _ z => z.1) cx), ⟨oa, nm, qn, hp _ ma, g2, g3, g4⟩⟩
  | cons d r ih =>
    intro n s₀ s Hi Gi Gy acc cc us dn c t fs ip env σ oL hn hlen hall go pr hos hbare un hok gh sy ext hS hSn rv rs hg haN hpv
    have lt : F.L < s.heap.objs.size := Heap.lt_size (hpv _ List.mem_cons_self).1
    have e1 := env0_un e0 hA un hok hbare (by rw [hsz]; exact Nat.le_of_lt lt)
    have inn := wake (E := E) (pn := pnAll s Hi F.L ((F.L, oL) :: ip)) ok e1 hfr pr (fun q hq => ⟨(hpv q hq).1, (hpv q hq).2.1⟩) sy gh fun p hp => by
      obtain ⟨z1, z2, z3, z4, z5⟩ := mem_pnAll.mp hp
      exact ⟨z1, z3, Nat.ne_of_gt z2, fun m => absurd (Nat.lt_trans z2 (hfr _ m)) (Nat.lt_irrefl _), z4⟩
    have run := go _ _ _ E _ _ _ _ _ inn (fun p hp q hq z => (mem_pnAll.mp hp).2.2.2.2 q (List.mem_cons_of_mem _ hq) z.symm) (fun _ x hx cls dd G' H' e' gh' => hE x hx cls dd G' H' (ext.trans e') gh') sy
    have mS : (S, lstObj acc cc) ∈ pnAll s Hi F.L ((F.L, oL) :: ip) := mem_pnAll.mpr ⟨hS, hSL, hSn, fun v z => (by cases z), fun q hq => (hpv q hq).2.2.1⟩
    obtain ⟨oa, nm, qn, g1, g2, g3, g4⟩ := id hg
    have ma : (a, oa) ∈ pnAll s Hi F.L ((F.L, oL) :: ip) := mem_pnAll.mpr ⟨g1, haL, haN, fun v z => (by rw [g3] at z; cases z), fun q hq => (hpv q hq).2.2.2⟩
    refine seg_of1 run (fun q s' hr => ?_) fun v k l c p fs s' hs => ?_
    · rcases hr with ⟨z, _⟩ | ⟨e, rfl, cx, hp⟩
      · cases z
      · exact .inr ⟨e, rfl, cx_cut e0.frf un hsz hos (cx_imp (fun _ _ _ z => z.1) cx), ⟨oa, nm, qn, hp _ ma, g2, g3, g4⟩⟩
    · obtain ⟨d', nx, hod, H', G', x, ip', σ', env', oL', k', l', c', p', fs', P, rvx, rx, pr', hpv', heq, hnx⟩ := hs
      cases hod
      cases heq
      obtain ⟨m, rfl⟩ : ∃ m, n = m + 1 := ⟨n - 1, by simp at hlen; omega⟩
      have un' := un_cut un hsz P.base
      have lt' : F.L < s'.heap.objs.size := Heap.lt_size (hpv' _ List.mem_cons_self).1
      have e2 := env0_un (A' := F.A) e0 hA un' P.hok P.bare (by rw [hsz]; exact Nat.le_of_lt lt')
      have pS := P.pin _ mS
      have pA := P.pin _ ma
      refine ⟨m, rfl, P.os.trans hos, P.bare, e0.mod.nolimit.keeps fun b o q => (e2.bs b o q).1, ⟨oa, nm, qn, pA.1, g2, g3, g4⟩, ⟨acc, cc, pS.1, hn⟩, fun s'' z => ?_⟩
      obtain ⟨c2, hS2⟩ := z.own acc cc pS.1
      have kp : ∀ b o, b ≠ S → s'.heap.get? b = some o → s''.heap.get? b = some o := z.keep
      have un2 : Un (frs F.outer) [] H H' sc.heap s''.heap := by
        have nS : ∀ {b o}, sc.heap.get? b = some o → b ≠ S := fun {b o} e => Nat.ne_of_lt (Nat.lt_trans (by rw [← hsz]; exact Heap.lt_size e) hSL)
        refine ⟨fun b o e n hf hx => kp b o (nS e) (un'.keep b o e n hf hx), fun b o e n hf hx => ?_, un'.free, fun b o e hx => ?_, un'.tups, un'.frzs, un'.tbls⟩
        · obtain ⟨sl, q⟩ := un'.slot b o e n hf hx
          exact ⟨sl, kp b _ (nS e) q⟩
        · obtain ⟨o', q⟩ := un'.there b o e hx
          exact ⟨o', kp b _ (nS e) q⟩
      have nt : ∀ b u, H' b = some u → b ≠ S := fun b u q hb => by rw [hb, pS.2] at q; cases q
      have hok2 : HOk F.P F.w H' s''.heap := fun b u q => (P.hok b u q).stay (fun c v hc y => kp c v (hc.elim (fun w => by rw [w]; exact nt b u q) fun w => nt c _ w) y) (fun _ y => y) fun _ _ y => y
      refine ih m s'' s'' H' G' G' (acc.push v) c2 (us ++ [x]) (dn ++ [d]) c (k (.send .none)) fs ip' env' σ' oL' ?_ ?_ ?_ hnx pr' (z.os.trans (P.os.trans hos)) z.bare un2 hok2 P.gh (fun _ _ z => z) (ext.trans P.ext) hS2 pS.2 ?_ ((rs.mono P.ext.gg (.refl _)).append (.one rx)) ⟨oa, nm, qn, kp a oa haS pA.1, g2, g3, g4⟩ pA.2 fun q hq => ?_
      · rw [Array.size_push]; omega
      · simp at hlen; omega
      · rw [← hall]; simp
      · rw [Array.toList_push]; exact rv.append (.cons rvx .nil)
      · obtain ⟨y1, y2, y3⟩ := hpv' q hq
        have n1 : q.1 ≠ S := Ne.symm (y3 _ mS)
        exact ⟨kp _ _ n1 y1, y2, n1, Ne.symm (y3 _ ma)⟩
theorem GNew.made {P : Program} {w : World} {K : PySem.W.Frag} {mg : Str → Option Value} {base : Heap} {k : Nat} {outer : List Env} {H G : Hp} {sc s' : Shared} {ys : List D} {fin : Option Exn} {a : Addr} {g : Nat} {c : Code} {mk : Around → GF} {oL : Obj} {A0 : Around} {Qc : List V → Hp → Prop} {E : XK}
    (N : GNew P w K mg base k outer H G sc s' ys fin a g c mk oL) (e0 : Env0 P w K mg base A0 outer sc H) (gh : Same G H) (hlen : ys.length ≤ sizeLine) (hQ : fin = none → ∀ vs H' G', Ext [] G H [] G' H' → Same G' H' → Reps ⟨K, mg⟩ [] G' vs ys → Qc vs H')
    (hE : ∀ x, fin = some x → ∀ cls dd G' H', Ext [] G H [] G' H' → Same G' H' → ExR ⟨K, mg⟩ [] G' H' cls dd x → E cls dd H') : GMade P w k outer H sc [] Qc E (.ref a) s' := by
  refine ⟨a, g, c, rfl, Nat.le_of_lt N.lt.1, N.lt.2, N.gen, N.st, N.os, N.bare, e0.mod.nolimit.keeps fun b o q => N.keep b o (e0.bs b o q).1, N.keep, fun A S s2 hr hf hS hk hSo hos hb => ?_⟩
  obtain ⟨N', q', sc', f', cd', hmk⟩ := N.at_ A
  obtain ⟨ok, sl⟩ := N.sl A hr hf
  obtain ⟨cS, heS⟩ := hSo
  have k2 : ∀ b o, sc.heap.get? b = some o → s2.heap.get? b = some o := fun b o e => hk b o (N.keep b o e)
  have ltS : sc.heap.objs.size < S := Nat.lt_of_lt_of_le (Nat.lt_trans N.lt.1 N.lt.2) hS
  have haS : a ≠ S := Nat.ne_of_lt (Nat.lt_of_lt_of_le N.lt.2 hS)
  rw [hmk] at ok sl
  obtain ⟨ip, σ, env, oL', c', t, fs, e1, pr, go, hgs⟩ := sl
  cases e1
  obtain ⟨o, nm, qn, z1, z2⟩ := N.gen
  have sd := seg_drain (F := ⟨P, w, K, mg, base, N', q', sc', f', cd', A, outer, sc.heap.objs.size⟩) (S := S) (a := a) (g := g) (sc := sc) (Qc := Qc) (E := E) (A0 := A0) (all := ys) ok rfl e0 hf ltS N.lt.1 haS hQ hE ys sizeLine s2 s2 H G G #[] cS [] [] c' t fs [] env σ oL (by simp) hlen rfl go pr hos hb (Un.kept k2) (e0.hok.kept k2) gh (fun _ _ z => z) (.refl _ _ _) heS (e0.hok.fresh (Nat.le_of_lt ltS)) .nil .nil ⟨o, nm, qn, hk a o z1, z2⟩ (e0.hok.fresh (Nat.le_of_lt N.lt.1)) fun q hq => by
    rw [List.mem_singleton.mp hq]
    exact ⟨hk _ _ N.fr, e0.hok.fresh (Nat.le_refl _), Nat.ne_of_lt ltS, Nat.ne_of_lt N.lt.1⟩
  rcases hgs with ⟨e2, rfl, rfl⟩ | ⟨k', l', p', e2, _⟩
  · cases e2; exact sd
  · cases e2
section
variable {X : Cx} {B : Bs} {W : WX} {e : Expr} {p pos : Pos}
end
end Gw

/-! DyQI: «yield from» of a list. -/
namespace Gw
open PySem PySem.Spec PyProof.Rows L2 GenW Dv

/-- a list's iterator, at i -/
structure LIt (o : Obj) (a : Addr) (i : Nat) : Prop where
  cls : o.cls = .type "list_iterator"
  dat : o.data = .fields #[.ref a, .int i 0]
section
variable {P : Program} {w : World} {A : Around} {E : Value → Shared → Prop} {s : Shared} {it a : Addr} {i : Nat} {its : Array Value} {oi : Obj}
end
section
variable {F : GF}
end
end Gw

/-! DyQJ: generator defs as the printer gives them; their contexts; y = [.. for .. in g(..)] on one line. -/
namespace Gw
open PySem PySem.Spec PyProof.Rows L2 GenW Dv

section
variable {F : GF} {s : Shared} {H : Hp} {E : XK} {pn : List (Addr × Obj)} {k : Nat}
theorem roomG (hs : s.heap.objs.size = F.L) (hr : Room k (F.A.deeper F.env)) : Room k (F.cx s H E pn).A := by
  rw [GF.cx_A hs]; exact hr
theorem takesG : Takes (F.cx s H E pn) (fun cls d _ H => E cls d H) := takesGF
end
section
variable {P : Program} {w : World} {K : PySem.W.Frag} {mg : Str → Option Value} {base : Heap}
/-- a method's def that is a generator -/
structure DefG (P : Program) (w : World) (K : PySem.W.Frag) (mg : Str → Option Value) (base : Heap) (g : Addr) (ps : List Str) (k : Nat) (m : GMean) : Prop where
  ex : ∃ fd : FuncData, PySem.W.keepIn K (.ref g) = true ∧ Binds K fd ps [] ∧ GFnD P w K mg base k g fd ps m
theorem gfnd {x qual : Str} {params : Arguments} {body : List Stmt} {scope : Scope} {f : Addr} {fd : FuncData} {N ps : List Str} {k : Nat} {gm : GM} (F : FunD K x qual params body scope [] [] f fd) (S : GScope N ps scope) (nocell : ∀ y ∈ scope.names, y.2 ≠ .cell)
    (hbody : ∀ (cdv : Value) (A : Around) (outer : List Env) (L : Nat), Room k (A.deeper (envOfC qual scope L f cdv)) → GDs ⟨P, w, K, mg, base, N, qual, scope, f, cdv, A, outer, L⟩ body gm) : GFnD P w K mg base (k + 1) f fd ps (genD N.length gm) := by
  obtain ⟨oc, od, dV, kV, doc, pm, an, cdv, ct, osl, rfl, lk, hcd, _, _⟩ := F.ex
  exact gfnd_of lk hcd S nocell fun A outer L hr => hbody cdv A outer L hr
theorem calleeG {x qual y : Str} {params : Arguments} {body : List Stmt} {scope : Scope} {f : Addr} {fd : FuncData} {N ps : List Str} {kb : List (Nat × List Str × List Nat)} {k : Nat} {gm : GM} (hm : mg y = some (.ref f)) (F : FunD K x qual params body scope [] [] f fd) (S : GScope N ps scope) (nocell : ∀ y ∈ scope.names, y.2 ≠ .cell)
    (hb : ∀ (kV doc pm : Value) (an : Option Addr) (cdv ct : Value) (us : List Value), us.length = ps.length → bindArgs (PySem.W.fnOf x qual params body scope .none kV doc pm an cdv ct) ⟨us, []⟩ = pure (ps.zip us))
    (hkb : ∀ q ∈ kb, ∀ (kV doc pm : Value) (an : Option Addr) (cdv ct : Value) (us ws : List Value), us.length = q.1 → ws.length = q.2.1.length → bindArgs (PySem.W.fnOf x qual params body scope .none kV doc pm an cdv ct) ⟨us, q.2.1.zip ws⟩ = pure (ps.zip (pick q.2.2 (us ++ ws))))
    (hbody : ∀ (cdv : Value) (A : Around) (outer : List Env) (L : Nat), Room k (A.deeper (envOfC qual scope L f cdv)) → GDs ⟨P, w, K, mg, base, N, qual, scope, f, cdv, A, outer, L⟩ body gm) : CalleeG P w K mg base y ps kb (k + 1) (genD N.length gm) := by
  refine ⟨f, fd, hm, F.kp, F.bindsN hb, fun q hq s us ws _ h1 h2 => ?_, gfnd F S nocell hbody⟩
  obtain ⟨oc, od, dV, kV, doc, pm, an, cdv, ct, osl, rfl, _, _, hd, _⟩ := F.ex
  rcases hd with ⟨_, rfl⟩ | ⟨h0, _⟩
  · exact BindsTo.of_eq (hkb q hq kV doc pm an cdv ct us ws h1 h2)
  · exact absurd rfl h0
end
/-- no name is a cell -/
def noCellB (l : List (Str × NameKind)) : Bool := l.all fun y => decide (y.2 ≠ .cell)
theorem noCell_by {l : List (Str × NameKind)} (h : noCellB l = true) : ∀ y ∈ l, y.2 ≠ .cell := fun y hy => of_decide_eq_true (List.all_eq_true.mp h y hy)
def noBothB (l : List (Str × NameKind)) : Bool := l.all fun y => decide (y.2 ≠ .free) && decide (y.2 ≠ .cell)
theorem noBoth_by {l : List (Str × NameKind)} (h : noBothB l = true) : ∀ y ∈ l, y.2 ≠ .free ∧ y.2 ≠ .cell := fun y hy => by
  have := List.all_eq_true.mp h y hy
  simpa only [Bool.and_eq_true, decide_eq_true_eq] using this
theorem hclG {F : GF} {ps : List Str} (S : GScope F.N ps F.scope) (h : ∀ y ∈ F.scope.names, y.2 ≠ .cell) : ∀ x, F.env.cells.lookup x = none := cells_none _ _ fun y hy => ⟨h y hy, S.nofree y hy⟩
/-- none of these classes ends an iterator -/
def stopB (l : List Str) : PySem.W.Frag → Bool := fun K => l.all fun c => decide (PySem.W.subIn K (.ref (He.ga K c)) (.type "StopIteration") = some false)
theorem stopB_ok {K : PySem.W.Frag} {mg : Str → Option Value} {l : List Str} (h : stopB l K = true) (hm : ∀ c ∈ l, mg c = some (.ref (He.ga K c))) : NoStops K mg (zzOf l) := by
  intro c C hz hC
  have hc : c ∈ l := of_decide_eq_true hz
  rw [hm c hc] at hC
  cases hC
  exact of_decide_eq_true (List.all_eq_true.mp h c hc)
section
variable {X : Cx} {B : Bs} {W : WX}
theorem ds_setLcG {i : Nat} {y : Str} {py spos : Pos} {elt tg iter : Expr} {ifs : List Expr} {scope : Scope} {own : List (Str × Nat)} {pos : Pos} {g : TG} {t : DTg} {is : List Nat} {tt : DEnv → Mu → Res Bool} {el : DEx} {k : Nat} {it : DEnv → Mu → GRes} {okx : Str → Bool} (hx : (∀ c, okx c = false) ∨ (X.stack = X.env :: X.outer ∧ X.env.frame = some X.env.locals ∧ Takes X W ∧ NoStops X.K X.mg okx)) (hc : X.calm = true) (hN : X.N.Nodup) (hy : X.N[i]? = some y) (hyl : List.lookup y X.env.scope.names = some NameKind.local)
    (hsw : swapsWith (elt.ListComp [⟨tg, iter, ifs, 0⟩] scope pos) (some (Expr.Name y py)) spos.line X.env = pure true) (hr : Room (k + 1) X.A) (hi : DGen X B W k iter it) (ok : BlkOk X.N X.env.scope scope own) (hnc : ∀ y ∈ scope.names, y.2 ≠ .cell) (gd : GD X.K X.mg g t is) (his : ∀ i ∈ is, i ∈ own.map (·.2))
    (hg : ∀ (s : Shared) (H : Hp) (C : Addr) (cl : List (Str × Addr)) (fp : List Addr), PG (X.blk s H scope (compEnvC scope cl C X.env) fp) tg g) (ht : ∀ (s : Shared) (H : Hp) (C : Addr) (cl : List (Str × Addr)) (fp : List Addr) (B : Bs), DTs (X.blk s H scope (compEnvC scope cl C X.env) fp) B W0 ifs tt)
    (he : ∀ (s : Shared) (H : Hp) (C : Addr) (cl : List (Str × Addr)) (fp : List Addr) (B : Bs), DE (X.blk s H scope (compEnvC scope cl C X.env) fp) B W0 elt el) (hs : ∀ x, foldedSetIterable iter X.env x = pure x := by intro _; rfl) :
    DS X B W (.Assign [.Name y py] (.ListComp elt [⟨tg, iter, ifs, 0⟩] scope pos) spos) (dAsg (dLcG okx it (own.map (·.2)) t tt el) (tName i)) := by
  refine ds_asgG (te := rdE (tx X) B W (dLcG okx it (own.map (·.2)) t tt el)) (g := gName i) ⟨fun pins s σ H Dd I h => ?_⟩ (fun _ _ _ h => h) gd_name
  rw [exec_Assign_Name_used _ _ _ _ hsw]
  refine wpAny_bind (wpAny_standAt (wpAny_bind ?_))
  show wpAny _ X.A (do let _ ← comprehension (.ListComp elt [⟨tg, iter, ifs, 0⟩] scope pos) scope X.env (firstIterPos [⟨tg, iter, ifs, 0⟩] pos) (newList []) false (eval iter X.env) (some (assign (.Name y py) X.env))) _ _ s
  have h : rdE (tx X) B W (dLcG okx it (own.map (·.2)) t tt el) σ H (fun x H1 => gName i x σ H1 Dd.nx) := h
  refine wpAny_bind (thn (lcG_core (Qf := fun _ s' => SP X pins Dd .next s') hx hc hN hr I hi ok hnc gd his hg ht he hs h fun L C s' m H' I' q hn f => ?_) fun _ s' hq => wpAny_pure (wpAny_pure hq))
  show wpAny _ _ (assign (.Name y py) X.env (.ref L)) _ _ _
  refine wpAny_assign_Name (store_ok2 (v := V.ref L) I' hN hy (.inl hyl) rfl (fun s2 I2 ⟨a, sb, ha⟩ => ?_) (.inr hyl))
  obtain ⟨f0, f1, f2, f3, f4, f5⟩ := f
  have haC : C.locals ≠ a := ha.elim (fun z => z ▸ f1) fun z e => f4 y a z e.symm
  exact ⟨m, hn.sameBut sb haC, fun h3 sb3 => ⟨_, H', I2.turned (t' := s2.toks) (fun b o hb e => (sb3.2 b hb).trans e) f0 f1 f3 f4 f5, q⟩⟩
end
end Gw

/-! DzA (printed by lib4.py): the meanings of the package's defs. -/
namespace Pk
open PySem PySem.Spec PyProof.Rows L2 Dv
open Gw (GM GMean GF genD gPlain gSeq gYield gFor dGen dGenK dLcG CalleeG MethG DefG NoStops calleeG gds_one gds_cons gd_plain gd_yield gd_for dgen_call dgen_callK0 de_lcG ds_setLcG takesG roomG hclG noCell_by noBoth_by stopB stopB_ok)
def b_check_field (zz : Str → Bool) : DSt := (dSeq (dIfS (dOrT (dNotT (dTest (dCall (fCall 1 mIsInteger) (dCons (dVar 0) dNil)))) (dTest (dBin (fInF true) (dVar 0) (dC (.tup ([2, 3, 5, 7].map D.int)))))) (dRaiseB (zz "InvalidPrime") "InvalidPrime" "given" "InvalidPrime" (dCons (dVar 0) dNil)) dSkip)
  (dIfS (dOrT (dNotT (dTest (dCall (fCall 3 mIsWithin) (dCons (dVar 1) (dCons (dC (.int 1)) (dCons (dC (.int 6)) dNil)))))) (dTest (dBin (fCmp fun i j => decide (j < i)) (dCall (fCall 2 mWorthsCount) (dCons (dVar 0) (dCons (dVar 1) dNil))) (dC (.int 64))))) (dRaiseB (zz "InvalidLength") "InvalidLength" "given" "InvalidLength" (dCons (dVar 1) dNil)) dSkip))
def m_check_field (zz : Str → Bool) : Fn := cleanD (defD 2 (b_check_field zz))
def b_rows_from : DSt := (dSeq (dAsg (dLst (dCons (dTup dNil) dNil)) (tName 2))
  (dSeq (dFor (dArg fRange1 (dCons (dVar 1) dNil)) (tName 3) (dAsg (dLc2 (dIter (dVar 2)) [4, 5] (tName 4) dYes (dArg fRange1 (dCons (dVar 0) dNil)) [5] (tName 5) dYes (dTup (dStar (dVar 4) (dCons (dVar 5) dNil)))) (tName 2)))
  (dRet (dVar 2))))
def m_rows_from : Fn := cleanD (defD 6 b_rows_from)
def b_scaled_rows (zz : Str → Bool) : GM := (gSeq (gPlain (dDrop (dCall (fCall 2 (m_check_field zz)) (dCons (dVar 0) (dCons (dVar 1) dNil)))))
  (gFor (dIter (dCall (fCall 2 m_rows_from) (dCons (dVar 0) (dCons (dVar 1) dNil)))) (tName 2) (gSeq (gPlain (dIfS (dOrT (dTest (dBin fNe (dVar 2) (dCall (fCall 2 mScaled) (dCons (dVar 2) (dCons (dVar 0) dNil))))) (dTest (dBin fEq (dCall (fCall 1 mLeadingPlace) (dCons (dVar 2) dNil)) (dVar 1)))) dCont dSkip))
  (gYield (dVar 2)))))
def m_scaled_rows (zz : Str → Bool) : GMean := genD 3 (b_scaled_rows zz)
def b__law_span : DSt := (dSeq (dAsg (dLst (dCons (dBin fMul (dTup (dCons (dC (.int 0)) dNil)) (dVar 1)) dNil)) (tName 3))
  (dSeq (dFor (dIter (dVar 2)) (tName 4) (dIfS (dTest (dBin (fIn true) (dCall fTuple (dCons (dVar 4) dNil)) (dVar 3))) (dSeq (dAsg (dLst dNil) (tName 5))
  (dSeq (dFor (dArg fRange1 (dCons (dVar 0) dNil)) (tName 6) (dAsg (dBin fAdd (dVar 5) (dLc (dIter (dVar 3)) [7] (tName 7) dYes (dCall (fCall 4 mSum) (dCons (dVar 0) (dCons (dVar 7) (dCons (dVar 4) (dCons (dVar 6) dNil))))))) (tName 5)))
  (dAsg (dVar 5) (tName 3)))) dSkip))
  (dRet (dCall fSorted (dCons (dVar 3) dNil)))))
def m__law_span : Fn := cleanD (defD 8 b__law_span)
end Pk

/-! DzB: what the package's Space answers. -/
namespace Pk
open PySem PySem.Spec PyProof.Rows L2 Dv
section
variable {p : Int} {n : Nat} {μ : Mu} {zz : Str → Bool}
/-- a space as the package has it -/
structure SpS (p : Int) (n : Nat) (red : List Rw) : Prop where
  fld : (p, n) ∈ fldL
  rs : RedS p n red
  asc : Asc red
theorem SpS.prm {red : List Rw} (h : SpS p n red) : Prm p := (fld_cases h.fld).1
theorem SpS.ok {red : List Rw} (h : SpS p n red) : ∀ r ∈ red, OkR p n r := fun r hr => (h.rs.all r hr).1
theorem asc_len : ∀ {red : List Rw} {b : Nat}, Asc red → (∀ r ∈ red, b ≤ leadN r ∧ leadN r < n) → red.length + b ≤ n ∨ red = []
  | [], b, _, _ => .inr rfl
  | r :: red, b, h, hl => by
    obtain ⟨h1, h2⟩ := List.pairwise_cons.mp h
    have hr := hl r List.mem_cons_self
    rcases asc_len (b := leadN r + 1) h2 (fun x hx => ⟨h1 x hx, (hl x (List.mem_cons_of_mem _ hx)).2⟩) with q | q
    · left; simp; omega
    · left; subst q; simp; omega
theorem SpS.len {red : List Rw} (h : SpS p n red) : red.length ≤ n := by
  rcases asc_len (b := 0) h.asc (fun r hr => ⟨Nat.zero_le _, (h.rs.all r hr).2.1⟩) with q | q
  · omega
  · subst q; simp
theorem spS_of {rows : List Rw} (hf : (p, n) ∈ fldL) (hr : ∀ r ∈ rows, OkR p n r) : SpS p n (redOf p rows) := ⟨hf, redOf_red (fld_cases hf).1 hr, redOf_asc (fld_cases hf).1 hr⟩
theorem SpS.with {red : List Rw} {row : Rw} (h : SpS p n red) (hk : OkR p n row) : SpS p n (redOf p (red ++ [row])) := spS_of h.fld fun r hr => (List.mem_append.mp hr).elim (h.ok r) fun q => by rw [List.mem_singleton.mp q]; exact hk
/-! ### factors -/
/-! ### ==, len -/
end
end Pk

/-! DzC: rows_from, separator; the laws' spaces, spans and units. -/
namespace Pk
open PySem PySem.Spec PyProof.Rows L2 Dv
section
variable {p : Int} {n : Nat} {μ : Mu} {zz : Str → Bool}
/-! ### rows_from, by the fields -/
/-! ### separator -/
/-! ### the laws' space -/
/-! ### the laws' spans -/
/-! ### units -/
end
end Pk

/-! DzH: inside, +; names; what a Receiver answers. -/
namespace Pk
open PySem PySem.Spec PyProof.Rows L2 Dv
section
variable {p : Int} {n : Nat} {μ : Mu} {zz : Str → Bool} {a b : List Rw} {env : DEnv} {ma mb : DEx}
/-! ### names -/
structure OkW (w : Str) : Prop where
  pos : 1 ≤ w.length
  le : w.length ≤ 8
  let_ : ∀ c ∈ w.cps.toList, 97 ≤ c ∧ c ≤ 122
/-! ### receivers -/
variable {w : Str} {l : Int}
end
end Pk

/-! DzI: what a Receiver answers. -/
namespace Dv
open PySem PySem.Spec PyProof.Rows L2
end Dv
namespace Pk
open PySem PySem.Spec PyProof.Rows L2 Dv
section
variable {p : Int} {n : Nat} {μ : Mu} {zz : Str → Bool} {a b c : List Rw} {env : DEnv} {ma mb : DEx} {w : Str} {l : Int}
end
end Pk

/-! DzJ: drawn words; spans and the spaces' questions. -/
namespace Dv
open PySem PySem.Spec PyProof.Rows L2
end Dv
namespace Pk
open PySem PySem.Spec PyProof.Rows L2 Dv
section
variable {p : Int} {n : Nat} {a b c rows : List Rw}
end
end Pk

namespace Lw_k04
open PySem PySem.Spec PyProof.Rows L2 Dv
open Gw (GM GMean GF genD gPlain gSeq gYield gFor dGen dGenK dLcG CalleeG MethG DefG NoStops calleeG gds_one gds_cons gd_plain gd_yield gd_for dgen_call dgen_callK0 de_lcG ds_setLcG takesG roomG hclG noCell_by noBoth_by stopB stopB_ok)
def top (i : Nat) : Stmt := PySem.Challenge.pw_mendcalls_k04_scaled_rows_in_order.main.body.getD i (.Pass ⟨0, 0, 0, 0⟩)
abbrev s__law_source : Stmt := top 20
abbrev N__law_source : List Str := ["_law_script"]
abbrev P__law_source : List Str := ["_law_script"]
abbrev s__law_draw : Stmt := top 21
abbrev N__law_draw : List Str := ["_law_src", "_law_many", "_law_cell", "_law_digit", "_law_seed"]
abbrev P__law_draw : List Str := ["_law_src", "_law_many"]
abbrev s__law_of : Stmt := top 22
abbrev N__law_of : List Str := ["_law_src", "_law_things"]
abbrev P__law_of : List Str := ["_law_src", "_law_things"]
abbrev s__law_sizes : Stmt := top 26
abbrev N__law_sizes : List Str := ["_law_src", "_law_found"]
abbrev P__law_sizes : List Str := ["_law_src"]
abbrev s__law_sum : Stmt := top 28
abbrev N__law_sum : List Str := ["_law_p", "_law_one", "_law_other", "_law_factor", "_law_a", "_law_b"]
abbrev P__law_sum : List Str := ["_law_p", "_law_one", "_law_other", "_law_factor"]
abbrev s__law_span : Stmt := top 29
abbrev N__law_span : List Str := ["_law_p", "_law_n", "_law_rows", "_law_found", "_law_row", "_law_late", "_law_factor", "_law_one"]
abbrev P__law_span : List Str := ["_law_p", "_law_n", "_law_rows"]
abbrev s__law_lead : Stmt := top 27
abbrev N__law_lead : List Str := ["_law_row", "_law_places", "_law_at"]
abbrev P__law_lead : List Str := ["_law_row"]
abbrev s__law_scaled_rows : Stmt := top 30
abbrev N__law_scaled_rows : List Str := ["_law_p", "_law_n", "_law_every", "_law_at", "_law_k", "_law_row"]
abbrev P__law_scaled_rows : List Str := ["_law_p", "_law_n"]
abbrev s__law_like : Stmt := top 23
abbrev N__law_like : List Str := ["_law_found", "_law_due", "_law_one", "_law_other"]
abbrev P__law_like : List Str := ["_law_found", "_law_due"]
abbrev s_is_integer : Stmt := top 9
abbrev N_is_integer : List Str := ["value"]
abbrev P_is_integer : List Str := ["value"]
abbrev s_is_within : Stmt := top 10
abbrev N_is_within : List Str := ["value", "low", "high"]
abbrev P_is_within : List Str := ["value", "low", "high"]
abbrev s_worths_count : Stmt := top 12
abbrev N_worths_count : List Str := ["prime", "length", "many", "place"]
abbrev P_worths_count : List Str := ["prime", "length"]
abbrev s_check_field : Stmt := top 11
abbrev N_check_field : List Str := ["prime", "length"]
abbrev P_check_field : List Str := ["prime", "length"]
abbrev s_rows_from : Stmt := top 17
abbrev N_rows_from : List Str := ["prime", "length", "found", "place", "early", "entry"]
abbrev P_rows_from : List Str := ["prime", "length"]
abbrev s_leading_place : Stmt := top 15
abbrev N_leading_place : List Str := ["row", "place", "entry"]
abbrev P_leading_place : List Str := ["row"]
abbrev s_multiplied : Stmt := top 14
abbrev N_multiplied : List Str := ["row", "factor", "prime", "entry"]
abbrev P_multiplied : List Str := ["row", "factor", "prime"]
abbrev s_inverse : Stmt := top 13
abbrev N_inverse : List Str := ["number", "prime", "other"]
abbrev P_inverse : List Str := ["number", "prime"]
abbrev s_scaled : Stmt := top 16
abbrev N_scaled : List Str := ["row", "prime", "place"]
abbrev P_scaled : List Str := ["row", "prime"]
abbrev s_scaled_rows : Stmt := top 18
abbrev N_scaled_rows : List Str := ["prime", "length", "row"]
abbrev P_scaled_rows : List Str := ["prime", "length"]
abbrev s__law_field : Stmt := top 24
abbrev N__law_field : List Str := ["_law_e"]
abbrev P__law_field : List Str := ["_law_e"]
abbrev s__law_why : Stmt := top 25
abbrev N__law_why : List Str := ["_law_ask", "_law_e"]
abbrev P__law_why : List Str := ["_law_ask"]
abbrev s_law : Stmt := top 31
abbrev N_law : List Str := ["_law_script", "_law_src", "_law_turn", "_law_p", "_law_n", "_law_found", "_law_again", "_law_due", "_law_many", "_law_place", "_law_odd", "_law_bad", "_law_asks", "_law_row", "_law_ask"]
abbrev P_law : List Str := ["_law_script"]
abbrev i_InvalidLength : Stmt := (clsBody (top 4)).getD 0 (.Pass ⟨0, 0, 0, 0⟩)
abbrev i_InvalidPrime : Stmt := (clsBody (top 3)).getD 0 (.Pass ⟨0, 0, 0, 0⟩)
/-- the errors that may be met, their fields -/
def fc : Str → List Str := fcs [("InvalidLength", some "given"), ("InvalidPrime", some "given")]
def zz : Str → Bool := zzOf ["InvalidLength", "InvalidPrime"]
abbrev le_0 : Expr := lamAt (stAt (defBody s_law) [1, 9]) 0
def lam_0 : LamI := mkLam 0 "law.<locals>.<lambda>" false ["_law_odd", "_law_bad"] (defScope s_law) le_0
abbrev N_lam_0 : List Str := ["_law_odd", "_law_bad", "_law_row"]
abbrev le_1 : Expr := lamAt (stAt (defBody s_law) [1, 9]) 1
def lam_1 : LamI := mkLam 1 "law.<locals>.<lambda>" true ["_law_bad"] (defScope s_law) le_1
abbrev N_lam_1 : List Str := ["_law_a", "_law_bad", "_law_row"]
/-! ### meanings -/
def b__law_source : DSt := (dRet (dLst (dCons (dCall fList (dCons (dSl (dVar 0) dNoPart (dPart (dC (.int 63)))) dNil)) (dCons (dC (.int 0)) (dCons (dC (.int 0)) (dCons (dC (.int 10014)) (dCons (dC (.int 0)) dNil)))))))
def m__law_source : Fn := adopt (cleanD (defD 1 b__law_source))
def b__law_scaled_rows : DSt := (dSeq (dAsg (dCall (fCall 3 Pk.m__law_span) (dCons (dVar 0) (dCons (dVar 1) (dCons (dLc (dArg fRange1 (dCons (dVar 1) dNil)) [3] (tName 3) dYes (dCall fTuple (dCons (dLc (dArg fRange1 (dCons (dVar 1) dNil)) [4] (tName 4) dYes (dCall fInt (dCons (dBin fEq (dVar 4) (dVar 3)) dNil))) dNil))) dNil)))) (tName 2))
  (dRet (dLc (dIter (dVar 2)) [5] (tName 5) (dAndT (dTest (dBin (fCmp fun i j => decide (j ≤ i)) (dCall (fCall 1 mLead) (dCons (dVar 5) dNil)) (dC (.int 0)))) (dTest (dBin fEq (dBin fIxS (dVar 5) (dCall (fCall 1 mLead) (dCons (dVar 5) dNil))) (dC (.int 1))))) (dVar 5))))
def m__law_scaled_rows : Fn := cleanD (defD 6 b__law_scaled_rows)
def lb_0 : DEx := (dLcG zz (dGen 2 (Pk.m_scaled_rows zz) (dCons (dVar 0) (dCons (dVar 1) dNil))) [2] (tName 2) dYes (dVar 2))
def lm_0 : List D → Mu → Res D := lamM N_lam_0.length lam_0 lb_0
def lb_1 : DEx := (dLcG zz (dGen 2 (Pk.m_scaled_rows zz) (dCons (dC (.int 2)) (dCons (dVar 1) dNil))) [2] (tName 2) dYes (dVar 2))
def lm_1 : List D → Mu → Res D := lamM N_lam_1.length lam_1 lb_1
def lams : Nat → LamI := fun i => match i with
  | 0 => lam_0
  | _ => lam_1
def ltab : Nat → List D → Mu → Res D := fun i => match i with
  | 0 => lm_0
  | _ => lm_1
noncomputable def m__law_why : Fn := mWhyC fc 2 lams ltab
noncomputable def b_law (cells : List (Str × Addr)) : DSt := (dSeq (dAsg (dCall (fCall 1 m__law_source) (dCons (dVar 0) dNil)) (tName 1))
  (dSeq (dFor (dArg fRange1 (dCons (dC (.int 3)) dNil)) (tName 2) (dSeq (dAsg (dCall (fCall 1 mLSizes) (dCons (dVar 1) dNil)) (Dv.tTup 2 (tsCons (tName 3) (tsCons (tName 4) tsNil))))
  (dSeq (dAsg (dLcG zz (dGen 2 (Pk.m_scaled_rows zz) (dCons (dVar 3) (dCons (dVar 4) dNil))) [13] (tName 13) dYes (dVar 13)) (tName 5))
  (dSeq (dAsg (dLcG zz (dGenK 2 0 2 [1, 0] (Pk.m_scaled_rows zz) dNil (dCons (dVar 4) (dCons (dVar 3) dNil))) [13] (tName 13) dYes (dVar 13)) (tName 6))
  (dSeq (dAsg (dCall (fCall 2 m__law_scaled_rows) (dCons (dVar 3) (dCons (dVar 4) dNil))) (tName 7))
  (dSeq (dAsg (dC (.int 1)) (tName 8))
  (dSeq (dFor (dArg fRange1 (dCons (dVar 4) dNil)) (tName 9) (dAsg (dBin fMul (dVar 8) (dVar 3)) (tName 8)))
  (dSeq (dIfS (dOrT (dNotT (dTest (dCall (fCall 2 (mLike 12)) (dCons (dVar 5) (dCons (dVar 7) dNil))))) (dOrT (dTest (dBin fNe (dVar 6) (dVar 7))) (dTest (dBin fNe (dBin fMul (dCall fLen (dCons (dVar 7) dNil)) (dBin fSub (dVar 3) (dC (.int 1)))) (dBin fSub (dVar 8) (dC (.int 1))))))) (dRet (dC (.bl false))) dSkip)
  (dSeq (dAsg (dCall (fCall 2 mOf) (dCons (dVar 1) (dCons (dLst (dCons (dC (.int 4)) (dCons (dC .non) (dCons (dC (.bl true)) (dCons (dC (.str "2")) dNil))))) dNil))) (tName 10))
  (dSeq (dAsg (dCall (fCall 2 mOf) (dCons (dVar 1) (dCons (dLst (dCons (dC (.int 0)) (dCons (dC (.int 7)) (dCons (dC .non) (dCons (dC (.bl true)) (dCons (dBin fSub (dC (.int 0)) (dC (.int 1))) dNil)))))) dNil))) (tName 11))
  (dSeq (dAsg (dLst (dCons (dLamV 0 ("law", none) (cloFrom cells lam_0.scope.names []) lam_0) (dCons (dLamV 0 ("law", none) (cloFrom cells lam_1.scope.names []) lam_1) dNil))) (tName 12))
  (dIfS (dNotT (dTest (dCall (fCall 2 (mLike 12)) (dCons (dLcZ N_law (defScope s_law) cells (dIter (dVar 12)) [14] (tName 14) (dCall (fCall 1 m__law_why) (dCons (dVar 14) dNil))) (dCons (dLst (dCons (dTup (dCons (dC (.str "InvalidPrime")) (dCons (dVar 10) dNil))) (dCons (dTup (dCons (dC (.str "InvalidLength")) (dCons (dVar 11) dNil))) dNil))) dNil))))) (dRet (dC (.bl false))) dSkip))))))))))))
  (dRet (dBin fEq (dLcG zz (dGen 2 (Pk.m_scaled_rows zz) (dCons (dC (.int 3)) (dCons (dC (.int 2)) dNil))) [13] (tName 13) dYes (dVar 13)) (dLst (dCons (dTup (dCons (dC (.int 0)) (dCons (dC (.int 1)) dNil))) (dCons (dTup (dCons (dC (.int 1)) (dCons (dC (.int 0)) dNil))) (dCons (dTup (dCons (dC (.int 1)) (dCons (dC (.int 1)) dNil))) (dCons (dTup (dCons (dC (.int 1)) (dCons (dC (.int 2)) dNil))) dNil)))))))))
noncomputable def m_law (cells : List (Str × Addr)) : Fn := cleanD (defD N_law.length (b_law cells))
/-! ### what the module holds -/
structure GS (K : PySem.W.Frag) (mg : Str → Option Value) : Prop where
  f_all : mg "all" = none
  f_bool : mg "bool" = none
  f_enumerate : mg "enumerate" = none
  f_int : mg "int" = none
  f_isinstance : mg "isinstance" = none
  f_len : mg "len" = none
  f_list : mg "list" = none
  f_range : mg "range" = none
  f_sorted : mg "sorted" = none
  f_str : mg "str" = none
  f_super : mg "super" = none
  f_tuple : mg "tuple" = none
  f_zip : mg "zip" = none
  d__law_source : ∃ f fd, mg "_law_source" = some (.ref f) ∧ FunD K "_law_source" "_law_source" (defArgs s__law_source) (defBody s__law_source) (defScope s__law_source) [] [] f fd
  d__law_draw : ∃ f fd, mg "_law_draw" = some (.ref f) ∧ FunD K "_law_draw" "_law_draw" (defArgs s__law_draw) (defBody s__law_draw) (defScope s__law_draw) [] [] f fd
  d__law_of : ∃ f fd, mg "_law_of" = some (.ref f) ∧ FunD K "_law_of" "_law_of" (defArgs s__law_of) (defBody s__law_of) (defScope s__law_of) [] [] f fd
  d__law_sizes : ∃ f fd, mg "_law_sizes" = some (.ref f) ∧ FunD K "_law_sizes" "_law_sizes" (defArgs s__law_sizes) (defBody s__law_sizes) (defScope s__law_sizes) [] [] f fd
  d__law_sum : ∃ f fd, mg "_law_sum" = some (.ref f) ∧ FunD K "_law_sum" "_law_sum" (defArgs s__law_sum) (defBody s__law_sum) (defScope s__law_sum) [] [] f fd
  d__law_span : ∃ f fd, mg "_law_span" = some (.ref f) ∧ FunD K "_law_span" "_law_span" (defArgs s__law_span) (defBody s__law_span) (defScope s__law_span) [] [] f fd
  d__law_lead : ∃ f fd, mg "_law_lead" = some (.ref f) ∧ FunD K "_law_lead" "_law_lead" (defArgs s__law_lead) (defBody s__law_lead) (defScope s__law_lead) [] [] f fd
  d__law_scaled_rows : ∃ f fd, mg "_law_scaled_rows" = some (.ref f) ∧ FunD K "_law_scaled_rows" "_law_scaled_rows" (defArgs s__law_scaled_rows) (defBody s__law_scaled_rows) (defScope s__law_scaled_rows) [] [] f fd
  d__law_like : ∃ f fd, mg "_law_like" = some (.ref f) ∧ FunD K "_law_like" "_law_like" (defArgs s__law_like) (defBody s__law_like) (defScope s__law_like) [] [] f fd
  d_is_integer : ∃ f fd, mg "is_integer" = some (.ref f) ∧ FunD K "is_integer" "is_integer" (defArgs s_is_integer) (defBody s_is_integer) (defScope s_is_integer) [] [] f fd
  d_is_within : ∃ f fd, mg "is_within" = some (.ref f) ∧ FunD K "is_within" "is_within" (defArgs s_is_within) (defBody s_is_within) (defScope s_is_within) [] [] f fd
  d_worths_count : ∃ f fd, mg "worths_count" = some (.ref f) ∧ FunD K "worths_count" "worths_count" (defArgs s_worths_count) (defBody s_worths_count) (defScope s_worths_count) [] [] f fd
  d_check_field : ∃ f fd, mg "check_field" = some (.ref f) ∧ FunD K "check_field" "check_field" (defArgs s_check_field) (defBody s_check_field) (defScope s_check_field) [] [] f fd
  d_rows_from : ∃ f fd, mg "rows_from" = some (.ref f) ∧ FunD K "rows_from" "rows_from" (defArgs s_rows_from) (defBody s_rows_from) (defScope s_rows_from) [] [] f fd
  d_leading_place : ∃ f fd, mg "leading_place" = some (.ref f) ∧ FunD K "leading_place" "leading_place" (defArgs s_leading_place) (defBody s_leading_place) (defScope s_leading_place) [] [] f fd
  d_multiplied : ∃ f fd, mg "multiplied" = some (.ref f) ∧ FunD K "multiplied" "multiplied" (defArgs s_multiplied) (defBody s_multiplied) (defScope s_multiplied) [] [] f fd
  d_inverse : ∃ f fd, mg "inverse" = some (.ref f) ∧ FunD K "inverse" "inverse" (defArgs s_inverse) (defBody s_inverse) (defScope s_inverse) [] [] f fd
  d_scaled : ∃ f fd, mg "scaled" = some (.ref f) ∧ FunD K "scaled" "scaled" (defArgs s_scaled) (defBody s_scaled) (defScope s_scaled) [] [] f fd
  d_scaled_rows : ∃ f fd, mg "scaled_rows" = some (.ref f) ∧ FunD K "scaled_rows" "scaled_rows" (defArgs s_scaled_rows) (defBody s_scaled_rows) (defScope s_scaled_rows) [] [] f fd
  d__law_field : ∃ f fd, mg "_law_field" = some (.ref f) ∧ FunD K "_law_field" "_law_field" (defArgs s__law_field) (defBody s__law_field) (defScope s__law_field) [] [] f fd
  d__law_why : ∃ f fd, mg "_law_why" = some (.ref f) ∧ FunD K "_law_why" "_law_why" (defArgs s__law_why) (defBody s__law_why) (defScope s__law_why) [] [] f fd
  c_MOST_WORTHS : ∃ t, mg "MOST_WORTHS" = some (.int 64 t)
  c_PRIMES : GTup K mg "PRIMES" [2, 3, 5, 7]
  m_CallError : mg "CallError" = some (.ref (He.ga K "CallError"))
  m_Missing : mg "Missing" = some (.ref (He.ga K "Missing"))
  m_NothingLeft : mg "NothingLeft" = some (.ref (He.ga K "NothingLeft"))
  cat : Catch K mg [.ref (He.ga K "CallError"), .ref (He.ga K "Missing"), .ref (He.ga K "NothingLeft")] (fc "code")
  ef : ErrFs K mg fc
  nst : NoStops K mg zz
structure Errs (P : Program) (w : World) (K : PySem.W.Frag) (mg : Str → Option Value) (base : Heap) : Prop where
  mk_InvalidLength : MkErr P w K mg base "InvalidLength" "given" "InvalidLength" 1
  mk_InvalidPrime : MkErr P w K mg base "InvalidPrime" "given" "InvalidPrime" 1
section
variable {P : Program} {w : World} {K : PySem.W.Frag} {mg : Str → Option Value} {base : Heap}
theorem sc__law_source : FnScope N__law_source P__law_source (defScope s__law_source) := ⟨rfl, rfl, rfl, by decide +kernel, rfl, by decide +kernel, by decide +kernel⟩
theorem ok__law_source (G : GS K mg) (GE : Errs P w K mg base)  : Callee P w K mg base "_law_source" P__law_source [] 1 m__law_source := by
  obtain ⟨f, fd, hm, F⟩ := G.d__law_source
  have E := G.ef
  have nd := (sc__law_source).nd
  have hC : Callee P w K mg base "_law_source" P__law_source [] (0 + 1) (cleanD (defD N__law_source.length b__law_source)) := by
    refine callee hm F sc__law_source (fun _ _ _ _ _ _ us hl => match us, hl with | [_], _ => rfl) (fun q hq => absurd hq List.not_mem_nil) fun cdv A outer s H E B hr => ?_
    have tk := takes_cx (P := P) (w := w) (K := K) (mg := mg) (base := base) (N := N__law_source) (qual := "_law_source") (scope := defScope s__law_source) (f := f) (cdv := cdv) (A := A) (outer := outer) (s := s) (H := H) (E := E)
    unfold b__law_source
    exact (dss_one (ds_ret (de_lst (da_cons (list_ G.f_list (da_cons (de_slice (vv 0) do_none (do_some de_int)) da_nil)) (da_cons de_int (da_cons de_int (da_cons de_int (da_cons de_int da_nil))))))))
  exact hC.adopt
theorem sc__law_draw : FnScope N__law_draw P__law_draw (defScope s__law_draw) := ⟨rfl, rfl, rfl, by decide +kernel, rfl, by decide +kernel, by decide +kernel⟩
theorem ok__law_draw (G : GS K mg) (GE : Errs P w K mg base)  : Callee P w K mg base "_law_draw" P__law_draw [] 1 mDraw := by
  obtain ⟨f, fd, hm, F⟩ := G.d__law_draw
  have E := G.ef
  have nd := (sc__law_draw).nd
  have hC : Callee P w K mg base "_law_draw" P__law_draw [] (0 + 1) (cleanD (defD N__law_draw.length bDraw)) := by
    refine callee hm F sc__law_draw (fun _ _ _ _ _ _ us hl => match us, hl with | [_, _], _ => rfl) (fun q hq => absurd hq List.not_mem_nil) fun cdv A outer s H E B hr => ?_
    have tk := takes_cx (P := P) (w := w) (K := K) (mg := mg) (base := base) (N := N__law_draw) (qual := "_law_draw") (scope := defScope s__law_draw) (f := f) (cdv := cdv) (A := A) (outer := outer) (s := s) (H := H) (E := E)
    unfold bDraw
    exact (dss_cons (ds_if (dw_t (dw_and (dt_cmp (op_eqD (unitsOk hr)) opd_eq (ix_ (vv 0) de_int) de_int (nomark _)) (dw_and1 (dt_cmp op_lt opd_cmp (ix_ (vv 0) de_int) (len_ G.f_len (da_cons (ix_ (vv 0) de_int) da_nil)) (nomark _))))) (dss_cons (ds_set nd rfl (by first | exact .inl rfl | exact .inr rfl) (ix_ (ix_ (vv 0) de_int) (ix_ (vv 0) de_int)))
  (dss_cons (ds_setS (de_op op_addA opd_add (ix_ (vv 0) de_int) de_int) (vv 0) de_int)
  (dss_one (ds_if (dt_cmp op_ge opd_cmp (vv 2) (de_op op_pow opd_pow de_int de_int) (nomark _)) (dss_one (ds_setS (vv 2) (vv 0) de_int)) (dss_one (ds_setS (de_op op_mod opd_mod (int_ G.f_int (da_cons (de_op op_addA opd_add (de_op op_addA opd_add (de_op op_mulA opd_mul (ix_ (vv 0) de_int) de_int) (de_op op_mulA opd_mul (de_op op_mod opd_mod (int_ G.f_int (da_cons (vv 2) da_nil)) de_int) de_int)) de_int) da_nil)) de_int) (vv 0) de_int)))))) dss_nil)
  (dss_cons (ds_if (dt_cmp op_gt opd_cmp (ix_ (vv 0) de_int) de_int (nomark _)) (dss_cons (ds_set nd rfl (by first | exact .inl rfl | exact .inr rfl) (de_op op_mod opd_mod (int_ G.f_int (da_cons (ix_ (vv 0) de_int) da_nil)) (vv 1)))
  (dss_cons (ds_setS (de_op op_fdiv opd_div (ix_ (vv 0) de_int) (vv 1)) (vv 0) de_int)
  (dss_one (ds_ret (vv 3))))) dss_nil)
  (dss_cons (ds_setS (de_op op_addA opd_add (ix_ (vv 0) de_int) de_int) (vv 0) de_int)
  (dss_cons (ds_set nd rfl (by first | exact .inl rfl | exact .inr rfl) (ix_ (vv 0) de_int))
  (dss_cons (ds_setS (de_op op_mod opd_mod (int_ G.f_int (da_cons (de_op op_addA opd_add (de_op op_addA opd_add (de_op op_addA opd_add (de_op op_mulA opd_mul (vv 4) (vv 4)) (de_op op_mulA opd_mul (vv 4) de_int)) (de_op op_mulA opd_mul (ix_ (vv 0) de_int) de_int)) de_int) da_nil)) de_int) (vv 0) de_int)
  (dss_one (ds_ret (de_op op_mod opd_mod (int_ G.f_int (da_cons (de_op op_addA opd_add (de_op op_fdiv opd_div (ix_ (vv 0) de_int) de_int) (de_op op_mulA opd_mul (de_op op_mod opd_mod (int_ G.f_int (da_cons (ix_ (vv 0) de_int) da_nil)) de_int) de_int)) da_nil)) (vv 1)))))))))
  exact hC
theorem sc__law_of : FnScope N__law_of P__law_of (defScope s__law_of) := ⟨rfl, rfl, rfl, by decide +kernel, rfl, by decide +kernel, by decide +kernel⟩
theorem ok__law_of (G : GS K mg) (GE : Errs P w K mg base) (C__law_draw : Callee P w K mg base "_law_draw" P__law_draw [] 1 mDraw) : Callee P w K mg base "_law_of" P__law_of [] 2 mOf := by
  obtain ⟨f, fd, hm, F⟩ := G.d__law_of
  have E := G.ef
  have nd := (sc__law_of).nd
  have hC : Callee P w K mg base "_law_of" P__law_of [] (1 + 1) (cleanD (defD N__law_of.length bOf)) := by
    refine callee hm F sc__law_of (fun _ _ _ _ _ _ us hl => match us, hl with | [_, _], _ => rfl) (fun q hq => absurd hq List.not_mem_nil) fun cdv A outer s H E B hr => ?_
    have tk := takes_cx (P := P) (w := w) (K := K) (mg := mg) (base := base) (N := N__law_of) (qual := "_law_of") (scope := defScope s__law_of) (f := f) (cdv := cdv) (A := A) (outer := outer) (s := s) (H := H) (E := E)
    unfold bOf
    exact (dss_one (ds_ret (ix_ (vv 1) (de_callN C__law_draw (hr.mono (by decide)) tk (by rfl) (da_cons (vv 0) (da_cons (len_ G.f_len (da_cons (vv 1) da_nil)) da_nil))))))
  exact hC
theorem sc__law_sizes : FnScope N__law_sizes P__law_sizes (defScope s__law_sizes) := ⟨rfl, rfl, rfl, by decide +kernel, rfl, by decide +kernel, by decide +kernel⟩
theorem ok__law_sizes (G : GS K mg) (GE : Errs P w K mg base) (C__law_of : Callee P w K mg base "_law_of" P__law_of [] 2 mOf) : Callee P w K mg base "_law_sizes" P__law_sizes [] 3 mLSizes := by
  obtain ⟨f, fd, hm, F⟩ := G.d__law_sizes
  have E := G.ef
  have nd := (sc__law_sizes).nd
  have hC : Callee P w K mg base "_law_sizes" P__law_sizes [] (2 + 1) (cleanD (defD N__law_sizes.length bLSizes)) := by
    refine callee hm F sc__law_sizes (fun _ _ _ _ _ _ us hl => match us, hl with | [_], _ => rfl) (fun q hq => absurd hq List.not_mem_nil) fun cdv A outer s H E B hr => ?_
    have tk := takes_cx (P := P) (w := w) (K := K) (mg := mg) (base := base) (N := N__law_sizes) (qual := "_law_sizes") (scope := defScope s__law_sizes) (f := f) (cdv := cdv) (A := A) (outer := outer) (s := s) (H := H) (E := E)
    unfold bLSizes
    exact (dss_cons (ds_set nd rfl (by first | exact .inl rfl | exact .inr rfl) (de_lst (da_cons (de_tup (da_cons de_int (da_cons de_int da_nil))) (da_cons (de_tup (da_cons de_int (da_cons de_int da_nil))) (da_cons (de_tup (da_cons de_int (da_cons de_int da_nil))) (da_cons (de_tup (da_cons de_int (da_cons de_int da_nil))) (da_cons (de_tup (da_cons de_int (da_cons de_int da_nil))) (da_cons (de_tup (da_cons de_int (da_cons de_int da_nil))) (da_cons (de_tup (da_cons de_int (da_cons de_int da_nil))) (da_cons (de_tup (da_cons de_int (da_cons de_int da_nil))) (da_cons (de_tup (da_cons de_int (da_cons de_int da_nil))) (da_cons (de_tup (da_cons de_int (da_cons de_int da_nil))) (da_cons (de_tup (da_cons de_int (da_cons de_int da_nil))) (da_cons (de_tup (da_cons de_int (da_cons de_int da_nil))) da_nil))))))))))))))
  (dss_one (ds_ret (de_callN C__law_of (hr.mono (by decide)) tk (by rfl) (da_cons (vv 0) (da_cons (vv 1) da_nil))))))
  exact hC
theorem sc__law_sum : FnScope N__law_sum P__law_sum (defScope s__law_sum) := ⟨rfl, rfl, rfl, by decide +kernel, rfl, by decide +kernel, by decide +kernel⟩
theorem ok__law_sum (G : GS K mg) (GE : Errs P w K mg base)  : Callee P w K mg base "_law_sum" P__law_sum [] 1 mSum := by
  obtain ⟨f, fd, hm, F⟩ := G.d__law_sum
  have E := G.ef
  have nd := (sc__law_sum).nd
  have hC : Callee P w K mg base "_law_sum" P__law_sum [] (0 + 1) (cleanD (defD N__law_sum.length bSum)) := by
    refine callee hm F sc__law_sum (fun _ _ _ _ _ _ us hl => match us, hl with | [_, _, _, _], _ => rfl) (fun q hq => absurd hq List.not_mem_nil) fun cdv A outer s H E B hr => ?_
    have tk := takes_cx (P := P) (w := w) (K := K) (mg := mg) (base := base) (N := N__law_sum) (qual := "_law_sum") (scope := defScope s__law_sum) (f := f) (cdv := cdv) (A := A) (outer := outer) (s := s) (H := H) (E := E)
    unfold bSum
    exact (dss_one (ds_ret (tuple_ G.f_tuple (da_cons (de_lc (own := [("_law_a", 4), ("_law_b", 5)]) rfl nd (di_zip (by rfl) G.f_zip (da_cons (vv 1) (da_cons (vv 2) da_nil))) (blkOk_by (by kernel_rfl)) (gd_tup (gsd_cons gd_name (gsd_cons gd_name gsd_nil))) (by decide) (fun _ _ _ _ _ => (pg_tup rfl (pgs_cons (pg_name (i := 4) nd rfl (by first | exact .inl rfl | exact .inr rfl) (by first | exact .inl rfl | exact .inr rfl)) (pgs_cons (pg_name (i := 5) nd rfl (by first | exact .inl rfl | exact .inr rfl) (by first | exact .inl rfl | exact .inr rfl)) pgs_nil)))) (fun _ _ _ _ _ _ => dts_nil) (fun _ _ _ _ _ _ => (de_op op_mod opd_mod (int_ G.f_int (da_cons (de_op op_addA opd_add (vv 4) (de_op op_mulA opd_mul (vv 3) (vv 5))) da_nil)) (vv 0)))) da_nil))))
  exact hC
theorem sc__law_span : FnScope N__law_span P__law_span (defScope s__law_span) := ⟨rfl, rfl, rfl, by decide +kernel, rfl, by decide +kernel, by decide +kernel⟩
theorem ok__law_span (G : GS K mg) (GE : Errs P w K mg base) (C__law_sum : Callee P w K mg base "_law_sum" P__law_sum [] 1 mSum) : Callee P w K mg base "_law_span" P__law_span [] 2 Pk.m__law_span := by
  obtain ⟨f, fd, hm, F⟩ := G.d__law_span
  have E := G.ef
  have nd := (sc__law_span).nd
  have hC : Callee P w K mg base "_law_span" P__law_span [] (1 + 1) (cleanD (defD N__law_span.length Pk.b__law_span)) := by
    refine callee hm F sc__law_span (fun _ _ _ _ _ _ us hl => match us, hl with | [_, _, _], _ => rfl) (fun q hq => absurd hq List.not_mem_nil) fun cdv A outer s H E B hr => ?_
    have tk := takes_cx (P := P) (w := w) (K := K) (mg := mg) (base := base) (N := N__law_span) (qual := "_law_span") (scope := defScope s__law_span) (f := f) (cdv := cdv) (A := A) (outer := outer) (s := s) (H := H) (E := E)
    unfold Pk.b__law_span
    exact (dss_cons (ds_set nd rfl (by first | exact .inl rfl | exact .inr rfl) (de_lst (da_cons (de_op op_mulA opd_mul (de_tup (da_cons de_int da_nil)) (vv 1)) da_nil)))
  (dss_cons (ds_for PassesOwn.leaving rfl (di_seq (vv 2)) (pg_name (i := 4) nd rfl (by first | exact .inl rfl | exact .inr rfl) (by first | exact .inl rfl | exact .inr rfl)) gd_name (dss_one (ds_if (dt_cmp (op_notInD (unitsOk5 hr)) opd_notIn (tuple_ G.f_tuple (da_cons (vv 4) da_nil)) (vv 3) (by rfl)) (dss_cons (ds_set nd rfl (by first | exact .inl rfl | exact .inr rfl) (de_lst da_nil))
  (dss_cons (ds_for PassesOwn.leaving rfl (di_range1 (by rfl) G.f_range (da_cons (vv 0) da_nil)) (pg_name (i := 6) nd rfl (by first | exact .inl rfl | exact .inr rfl) (by first | exact .inl rfl | exact .inr rfl)) gd_name (dss_one (ds_set nd rfl (by first | exact .inl rfl | exact .inr rfl) (de_op op_addA opd_add (vv 5) (de_lc (own := [("_law_one", 7)]) rfl nd (di_seq (vv 3)) (blkOk_by (by kernel_rfl)) gd_name (by decide) (fun _ _ _ _ _ => (pg_name (i := 7) nd rfl (by first | exact .inl rfl | exact .inr rfl) (by first | exact .inl rfl | exact .inr rfl))) (fun _ _ _ _ _ _ => dts_nil) (fun _ _ _ _ _ _ => (de_callN C__law_sum (hr.mono (by decide)) takes0 (by rfl) (da_cons (vv 0) (da_cons (vv 7) (da_cons (vv 4) (da_cons (vv 6) da_nil)))))))))))
  (dss_one (ds_set nd rfl (by first | exact .inl rfl | exact .inr rfl) (vv 5))))) dss_nil)))
  (dss_one (ds_ret (sorted_ (hr.mono (by decide)) G.f_sorted (da_cons (vv 3) da_nil))))))
  exact hC
theorem sc__law_lead : FnScope N__law_lead P__law_lead (defScope s__law_lead) := ⟨rfl, rfl, rfl, by decide +kernel, rfl, by decide +kernel, by decide +kernel⟩
theorem ok__law_lead (G : GS K mg) (GE : Errs P w K mg base)  : Callee P w K mg base "_law_lead" P__law_lead [] 1 mLead := by
  obtain ⟨f, fd, hm, F⟩ := G.d__law_lead
  have E := G.ef
  have nd := (sc__law_lead).nd
  have hC : Callee P w K mg base "_law_lead" P__law_lead [] (0 + 1) (cleanD (defD N__law_lead.length bLead)) := by
    refine callee hm F sc__law_lead (fun _ _ _ _ _ _ us hl => match us, hl with | [_], _ => rfl) (fun q hq => absurd hq List.not_mem_nil) fun cdv A outer s H E B hr => ?_
    have tk := takes_cx (P := P) (w := w) (K := K) (mg := mg) (base := base) (N := N__law_lead) (qual := "_law_lead") (scope := defScope s__law_lead) (f := f) (cdv := cdv) (A := A) (outer := outer) (s := s) (H := H) (E := E)
    unfold bLead
    exact (dss_cons (ds_setLc (i := 1) (hc := rfl) (hN := nd) (hy := rfl) (hyl := rfl) (hsw := sw_true rfl rfl rfl (by decide +kernel)) (own := [("_law_at", 2)]) (di_range1 (by rfl) G.f_range (da_cons (len_ G.f_len (da_cons (vv 0) da_nil)) da_nil)) (blkOk_by (by kernel_rfl)) gd_name (by decide) (fun _ _ _ _ _ => (pg_name (i := 2) nd rfl (by first | exact .inl rfl | exact .inr rfl) (by first | exact .inl rfl | exact .inr rfl))) (fun _ _ _ _ _ _ => (dts_one (dt_cmp (op_neD (unitsOk hr)) opd_ne (ix_ (vv 0) (vv 2)) de_int (nomark _)))) (fun _ _ _ _ _ _ => (vv 2)))
  (dss_one (ds_ret (de_if (dt_cmp (op_neD (unitsOk hr)) opd_ne (vv 1) (de_lst da_nil) (nomark _)) (ix_ (vv 1) de_int) (de_op op_sub opd_sub de_int de_int)))))
  exact hC
theorem sc__law_scaled_rows : FnScope N__law_scaled_rows P__law_scaled_rows (defScope s__law_scaled_rows) := ⟨rfl, rfl, rfl, by decide +kernel, rfl, by decide +kernel, by decide +kernel⟩
theorem ok__law_scaled_rows (G : GS K mg) (GE : Errs P w K mg base) (C__law_span : Callee P w K mg base "_law_span" P__law_span [] 2 Pk.m__law_span) (C__law_lead : Callee P w K mg base "_law_lead" P__law_lead [] 1 mLead) : Callee P w K mg base "_law_scaled_rows" P__law_scaled_rows [] 3 m__law_scaled_rows := by
  obtain ⟨f, fd, hm, F⟩ := G.d__law_scaled_rows
  have E := G.ef
  have nd := (sc__law_scaled_rows).nd
  have hC : Callee P w K mg base "_law_scaled_rows" P__law_scaled_rows [] (2 + 1) (cleanD (defD N__law_scaled_rows.length b__law_scaled_rows)) := by
    refine callee hm F sc__law_scaled_rows (fun _ _ _ _ _ _ us hl => match us, hl with | [_, _], _ => rfl) (fun q hq => absurd hq List.not_mem_nil) fun cdv A outer s H E B hr => ?_
    have tk := takes_cx (P := P) (w := w) (K := K) (mg := mg) (base := base) (N := N__law_scaled_rows) (qual := "_law_scaled_rows") (scope := defScope s__law_scaled_rows) (f := f) (cdv := cdv) (A := A) (outer := outer) (s := s) (H := H) (E := E)
    unfold b__law_scaled_rows
    exact (dss_cons (ds_set nd rfl (by first | exact .inl rfl | exact .inr rfl) (de_callN C__law_span (hr.mono (by decide)) tk (by rfl) (da_cons (vv 0) (da_cons (vv 1) (da_cons (de_lc (own := [("_law_at", 3)]) rfl nd (di_range1 (by rfl) G.f_range (da_cons (vv 1) da_nil)) (blkOk_by (by kernel_rfl)) gd_name (by decide) (fun _ _ _ _ _ => (pg_name (i := 3) nd rfl (by first | exact .inl rfl | exact .inr rfl) (by first | exact .inl rfl | exact .inr rfl))) (fun _ _ _ _ _ _ => dts_nil) (fun _ _ _ _ _ _ => (tuple_ G.f_tuple (da_cons (de_lc (own := [("_law_k", 4)]) rfl nd (di_range1 (by rfl) G.f_range (da_cons (vv 1) da_nil)) (blkOk_by (by kernel_rfl)) gd_name (by decide) (fun _ _ _ _ _ => (pg_name (i := 4) nd rfl (by first | exact .inl rfl | exact .inr rfl) (by first | exact .inl rfl | exact .inr rfl))) (fun _ _ _ _ _ _ => dts_nil) (fun _ _ _ _ _ _ => (int_ G.f_int (da_cons (de_cmp (op_eqD (unitsOk hr)) opd_eq (vv 4) (vv 3) (nomark _)) da_nil)))) da_nil)))) da_nil)))))
  (dss_one (ds_ret (de_lc (own := [("_law_row", 5)]) rfl nd (di_seq (vv 2)) (blkOk_by (by kernel_rfl)) gd_name (by decide) (fun _ _ _ _ _ => (pg_name (i := 5) nd rfl (by first | exact .inl rfl | exact .inr rfl) (by first | exact .inl rfl | exact .inr rfl))) (fun _ _ _ _ _ _ => (dts_one (dw_t (dw_and (dt_cmp op_ge opd_cmp (de_callN C__law_lead (hr.mono (by decide)) takes0 (by rfl) (da_cons (vv 5) da_nil)) de_int (nomark _)) (dw_and1 (dt_cmp (op_eqD (unitsOk hr)) opd_eq (ix_ (vv 5) (de_callN C__law_lead (hr.mono (by decide)) takes0 (by rfl) (da_cons (vv 5) da_nil))) de_int (nomark _))))))) (fun _ _ _ _ _ _ => (vv 5))))))
  exact hC
theorem sc__law_like : FnScope N__law_like P__law_like (defScope s__law_like) := ⟨rfl, rfl, rfl, by decide +kernel, rfl, by decide +kernel, by decide +kernel⟩
theorem ok__law_like (G : GS K mg) (GE : Errs P w K mg base)  : ∀ n, Callee P w K mg base "_law_like" P__law_like [] (n + 0) (mLike n)
  | 0 => by
    obtain ⟨f, fd, hm, F⟩ := G.d__law_like
    exact callee0 hm F (fun _ _ _ _ _ _ us hl => match us, hl with | [_, _], _ => rfl) (fun q hq => absurd hq List.not_mem_nil)
  | n + 1 => by
    have ih := ok__law_like G GE  n
    obtain ⟨f, fd, hm, F⟩ := G.d__law_like
    have nd := (sc__law_like).nd
    refine callee (N := N__law_like) (m := bLike (mLike n)) hm F sc__law_like (fun _ _ _ _ _ _ us hl => match us, hl with | [_, _], _ => rfl) (fun q hq => absurd hq List.not_mem_nil) fun cdv A outer s H E B hr => ?_
    have tk := takes_cx (P := P) (w := w) (K := K) (mg := mg) (base := base) (N := N__law_like) (qual := "_law_like") (scope := defScope s__law_like) (f := f) (cdv := cdv) (A := A) (outer := outer) (s := s) (H := H) (E := E)
    unfold bLike
    exact (dss_cons (ds_if (dt_val (isi_ G.f_isinstance (da_cons (vv 1) (da_cons (de_tup (da_cons (ty_list G.f_list) (da_cons (ty_tuple G.f_tuple) da_nil))) da_nil))) (by intro _; rfl)) (dss_cons (ds_if (dt_cmp (op_neD (unitsOk hr)) opd_ne (isi_ G.f_isinstance (da_cons (vv 0) (da_cons (ty_list G.f_list) da_nil))) (isi_ G.f_isinstance (da_cons (vv 1) (da_cons (ty_list G.f_list) da_nil))) (nomark _)) (dss_one (ds_ret de_bl)) dss_nil)
  (dss_cons (ds_if (dt_cmp (op_neD (unitsOk hr)) opd_ne (isi_ G.f_isinstance (da_cons (vv 0) (da_cons (ty_tuple G.f_tuple) da_nil))) (isi_ G.f_isinstance (da_cons (vv 1) (da_cons (ty_tuple G.f_tuple) da_nil))) (nomark _)) (dss_one (ds_ret de_bl)) dss_nil)
  (dss_one (ds_ret (de_and (de_cmp (op_eqD (unitsOk hr)) opd_eq (len_ G.f_len (da_cons (vv 0) da_nil)) (len_ G.f_len (da_cons (vv 1) da_nil)) (nomark _)) (de_one (all_ G.f_all (da_cons (de_lc (own := [("_law_one", 2), ("_law_other", 3)]) rfl nd (di_zip (by rfl) G.f_zip (da_cons (vv 0) (da_cons (vv 1) da_nil))) (blkOk_by (by kernel_rfl)) (gd_tup (gsd_cons gd_name (gsd_cons gd_name gsd_nil))) (by decide) (fun _ _ _ _ _ => (pg_tup rfl (pgs_cons (pg_name (i := 2) nd rfl (by first | exact .inl rfl | exact .inr rfl) (by first | exact .inl rfl | exact .inr rfl)) (pgs_cons (pg_name (i := 3) nd rfl (by first | exact .inl rfl | exact .inr rfl) (by first | exact .inl rfl | exact .inr rfl)) pgs_nil)))) (fun _ _ _ _ _ _ => dts_nil) (fun _ _ _ _ _ _ => (de_callN ih (hr.mono (by omega)) takes0 (by rfl) (da_cons (vv 2) (da_cons (vv 3) da_nil))))) da_nil)))))))) dss_nil)
  (dss_cons (ds_if (dw_t (dw_or (dt_cmp op_isN opd_is (vv 1) de_non (nomark _)) (dw_or1 (dt_cmp op_isN opd_is (vv 0) de_non (nomark _))))) (dss_one (ds_ret (de_and (de_cmp op_isN opd_is (vv 1) de_non (nomark _)) (de_one (de_cmp op_isN opd_is (vv 0) de_non (nomark _)))))) dss_nil)
  (dss_cons (ds_if (dw_t (dw_or (dt_cmp (op_neD (unitsOk hr)) opd_ne (isi_ G.f_isinstance (da_cons (vv 0) (da_cons (ty_bool G.f_bool) da_nil))) (isi_ G.f_isinstance (da_cons (vv 1) (da_cons (ty_bool G.f_bool) da_nil))) (nomark _)) (dw_or1 (dt_cmp (op_neD (unitsOk hr)) opd_ne (isi_ G.f_isinstance (da_cons (vv 0) (da_cons (ty_int G.f_int) da_nil))) (isi_ G.f_isinstance (da_cons (vv 1) (da_cons (ty_int G.f_int) da_nil))) (nomark _))))) (dss_one (ds_ret de_bl)) dss_nil)
  (dss_one (ds_ret (de_and (de_cmp (op_eqD (unitsOk hr)) opd_eq (isi_ G.f_isinstance (da_cons (vv 0) (da_cons (ty_str G.f_str) da_nil))) (isi_ G.f_isinstance (da_cons (vv 1) (da_cons (ty_str G.f_str) da_nil))) (nomark _)) (de_one (de_cmp (op_eqD (unitsOk hr)) opd_eq (vv 0) (vv 1) (nomark _)))))))))
theorem sc_is_integer : FnScope N_is_integer P_is_integer (defScope s_is_integer) := ⟨rfl, rfl, rfl, by decide +kernel, rfl, by decide +kernel, by decide +kernel⟩
theorem ok_is_integer (G : GS K mg) (GE : Errs P w K mg base)  : Callee P w K mg base "is_integer" P_is_integer [] 1 mIsInteger := by
  obtain ⟨f, fd, hm, F⟩ := G.d_is_integer
  have E := G.ef
  have nd := (sc_is_integer).nd
  have hC : Callee P w K mg base "is_integer" P_is_integer [] (0 + 1) (cleanD (defD N_is_integer.length bIsInteger)) := by
    refine callee hm F sc_is_integer (fun _ _ _ _ _ _ us hl => match us, hl with | [_], _ => rfl) (fun q hq => absurd hq List.not_mem_nil) fun cdv A outer s H E B hr => ?_
    have tk := takes_cx (P := P) (w := w) (K := K) (mg := mg) (base := base) (N := N_is_integer) (qual := "is_integer") (scope := defScope s_is_integer) (f := f) (cdv := cdv) (A := A) (outer := outer) (s := s) (H := H) (E := E)
    unfold bIsInteger
    exact (dss_one (ds_ret (de_and (isi_ G.f_isinstance (da_cons (vv 0) (da_cons (ty_int G.f_int) da_nil))) (de_one (de_not (isi_ G.f_isinstance (da_cons (vv 0) (da_cons (ty_bool G.f_bool) da_nil))))))))
  exact hC
theorem sc_is_within : FnScope N_is_within P_is_within (defScope s_is_within) := ⟨rfl, rfl, rfl, by decide +kernel, rfl, by decide +kernel, by decide +kernel⟩
theorem ok_is_within (G : GS K mg) (GE : Errs P w K mg base) (C_is_integer : Callee P w K mg base "is_integer" P_is_integer [] 1 mIsInteger) : Callee P w K mg base "is_within" P_is_within [] 2 mIsWithin := by
  obtain ⟨f, fd, hm, F⟩ := G.d_is_within
  have E := G.ef
  have nd := (sc_is_within).nd
  have hC : Callee P w K mg base "is_within" P_is_within [] (1 + 1) (cleanD (defD N_is_within.length bIsWithin)) := by
    refine callee hm F sc_is_within (fun _ _ _ _ _ _ us hl => match us, hl with | [_, _, _], _ => rfl) (fun q hq => absurd hq List.not_mem_nil) fun cdv A outer s H E B hr => ?_
    have tk := takes_cx (P := P) (w := w) (K := K) (mg := mg) (base := base) (N := N_is_within) (qual := "is_within") (scope := defScope s_is_within) (f := f) (cdv := cdv) (A := A) (outer := outer) (s := s) (H := H) (E := E)
    unfold bIsWithin
    exact (dss_one (ds_ret (de_and (de_callN C_is_integer (hr.mono (by decide)) tk (by rfl) (da_cons (vv 0) da_nil)) (de_one (de_chain op_le opd_cmp op_le opd_cmp (vv 1) (vv 0) (vv 2) (by rfl))))))
  exact hC
theorem sc_worths_count : FnScope N_worths_count P_worths_count (defScope s_worths_count) := ⟨rfl, rfl, rfl, by decide +kernel, rfl, by decide +kernel, by decide +kernel⟩
theorem ok_worths_count (G : GS K mg) (GE : Errs P w K mg base)  : Callee P w K mg base "worths_count" P_worths_count [] 1 mWorthsCount := by
  obtain ⟨f, fd, hm, F⟩ := G.d_worths_count
  have E := G.ef
  have nd := (sc_worths_count).nd
  have hC : Callee P w K mg base "worths_count" P_worths_count [] (0 + 1) (cleanD (defD N_worths_count.length bWorthsCount)) := by
    refine callee hm F sc_worths_count (fun _ _ _ _ _ _ us hl => match us, hl with | [_, _], _ => rfl) (fun q hq => absurd hq List.not_mem_nil) fun cdv A outer s H E B hr => ?_
    have tk := takes_cx (P := P) (w := w) (K := K) (mg := mg) (base := base) (N := N_worths_count) (qual := "worths_count") (scope := defScope s_worths_count) (f := f) (cdv := cdv) (A := A) (outer := outer) (s := s) (H := H) (E := E)
    unfold bWorthsCount
    exact (dss_cons (ds_set nd rfl (by first | exact .inl rfl | exact .inr rfl) de_int)
  (dss_cons (ds_for PassesOwn.leaving rfl (di_range1 (by rfl) G.f_range (da_cons (vv 1) da_nil)) (pg_name (i := 3) nd rfl (by first | exact .inl rfl | exact .inr rfl) (by first | exact .inl rfl | exact .inr rfl)) gd_name (dss_one (ds_set nd rfl (by first | exact .inl rfl | exact .inr rfl) (de_op op_mulA opd_mul (vv 2) (vv 0)))))
  (dss_one (ds_ret (vv 2)))))
  exact hC
theorem sc_check_field : FnScope N_check_field P_check_field (defScope s_check_field) := ⟨rfl, rfl, rfl, by decide +kernel, rfl, by decide +kernel, by decide +kernel⟩
theorem ok_check_field (G : GS K mg) (GE : Errs P w K mg base) (C_is_integer : Callee P w K mg base "is_integer" P_is_integer [] 1 mIsInteger) (C_is_within : Callee P w K mg base "is_within" P_is_within [] 2 mIsWithin) (C_worths_count : Callee P w K mg base "worths_count" P_worths_count [] 1 mWorthsCount) : Callee P w K mg base "check_field" P_check_field [] 3 (Pk.m_check_field zz) := by
  obtain ⟨f, fd, hm, F⟩ := G.d_check_field
  have E := G.ef
  have nd := (sc_check_field).nd
  have hC : Callee P w K mg base "check_field" P_check_field [] (2 + 1) (cleanD (defD N_check_field.length (Pk.b_check_field zz))) := by
    refine callee hm F sc_check_field (fun _ _ _ _ _ _ us hl => match us, hl with | [_, _], _ => rfl) (fun q hq => absurd hq List.not_mem_nil) fun cdv A outer s H E B hr => ?_
    have tk := takes_cx (P := P) (w := w) (K := K) (mg := mg) (base := base) (N := N_check_field) (qual := "check_field") (scope := defScope s_check_field) (f := f) (cdv := cdv) (A := A) (outer := outer) (s := s) (H := H) (E := E)
    unfold Pk.b_check_field
    exact (dss_cons (ds_if (dw_t (dw_or (dt_not (dt_val (de_callN C_is_integer (hr.mono (by decide)) tk (by rfl) (da_cons (vv 0) da_nil)) (by intro _; rfl))) (dw_or1 (dt_cmp op_notIn_seq (opd_inF true) (vv 0) (g_tup G.c_PRIMES) (by rfl))))) (dss_one (ds_raiseB (ds_raise GE.mk_InvalidPrime rfl tk (hr.mono (by decide)) rfl (da_cons (vv 0) da_nil)))) dss_nil)
  (dss_one (ds_if (dw_t (dw_or (dt_not (dt_val (de_callN C_is_within (hr.mono (by decide)) tk (by rfl) (da_cons (vv 1) (da_cons de_int (da_cons de_int da_nil)))) (by intro _; rfl))) (dw_or1 (dt_cmp op_gt opd_cmp (de_callN C_worths_count (hr.mono (by decide)) tk (by rfl) (da_cons (vv 0) (da_cons (vv 1) da_nil))) (g_int G.c_MOST_WORTHS) (nomark _))))) (dss_one (ds_raiseB (ds_raise GE.mk_InvalidLength rfl tk (hr.mono (by decide)) rfl (da_cons (vv 1) da_nil)))) dss_nil)))
  exact hC
theorem sc_rows_from : FnScope N_rows_from P_rows_from (defScope s_rows_from) := ⟨rfl, rfl, rfl, by decide +kernel, rfl, by decide +kernel, by decide +kernel⟩
theorem ok_rows_from (G : GS K mg) (GE : Errs P w K mg base)  : Callee P w K mg base "rows_from" P_rows_from [] 1 Pk.m_rows_from := by
  obtain ⟨f, fd, hm, F⟩ := G.d_rows_from
  have E := G.ef
  have nd := (sc_rows_from).nd
  have hC : Callee P w K mg base "rows_from" P_rows_from [] (0 + 1) (cleanD (defD N_rows_from.length Pk.b_rows_from)) := by
    refine callee hm F sc_rows_from (fun _ _ _ _ _ _ us hl => match us, hl with | [_, _], _ => rfl) (fun q hq => absurd hq List.not_mem_nil) fun cdv A outer s H E B hr => ?_
    have tk := takes_cx (P := P) (w := w) (K := K) (mg := mg) (base := base) (N := N_rows_from) (qual := "rows_from") (scope := defScope s_rows_from) (f := f) (cdv := cdv) (A := A) (outer := outer) (s := s) (H := H) (E := E)
    unfold Pk.b_rows_from
    exact (dss_cons (ds_set nd rfl (by first | exact .inl rfl | exact .inr rfl) (de_lst (da_cons (de_tup da_nil) da_nil)))
  (dss_cons (ds_for PassesOwn.leaving rfl (di_range1 (by rfl) G.f_range (da_cons (vv 1) da_nil)) (pg_name (i := 3) nd rfl (by first | exact .inl rfl | exact .inr rfl) (by first | exact .inl rfl | exact .inr rfl)) gd_name (dss_one (ds_setLc2 (i := 2) (hc := rfl) (hN := nd) (hy := rfl) (hyl := rfl) (hsw := sw_true rfl rfl rfl (by decide +kernel)) (own := [("early", 4), ("entry", 5)]) (vs1 := [5]) (di_seq (vv 2)) (blkOk_by (by kernel_rfl)) (by decide) gd_name (by decide) gd_name (by decide) (fun _ _ _ _ _ => (pg_name (i := 4) nd rfl (by first | exact .inl rfl | exact .inr rfl) (by first | exact .inl rfl | exact .inr rfl))) (fun _ _ _ _ _ _ => dts_nil) (fun _ _ _ _ _ _ => (di_range1 (by rfl) G.f_range (da_cons (vv 0) da_nil))) (fun _ _ _ _ _ => (pg_name (i := 5) nd rfl (by first | exact .inl rfl | exact .inr rfl) (by first | exact .inl rfl | exact .inr rfl))) (fun _ _ _ _ _ _ => dts_nil) (fun _ _ _ _ _ _ => (de_tup (da_star (vv 4) (da_cons (vv 5) da_nil)))))))
  (dss_one (ds_ret (vv 2)))))
  exact hC
theorem sc_leading_place : FnScope N_leading_place P_leading_place (defScope s_leading_place) := ⟨rfl, rfl, rfl, by decide +kernel, rfl, by decide +kernel, by decide +kernel⟩
theorem ok_leading_place (G : GS K mg) (GE : Errs P w K mg base)  : Callee P w K mg base "leading_place" P_leading_place [] 1 mLeadingPlace := by
  obtain ⟨f, fd, hm, F⟩ := G.d_leading_place
  have E := G.ef
  have nd := (sc_leading_place).nd
  have hC : Callee P w K mg base "leading_place" P_leading_place [] (0 + 1) (cleanD (defD N_leading_place.length bLeadingPlace)) := by
    refine callee hm F sc_leading_place (fun _ _ _ _ _ _ us hl => match us, hl with | [_], _ => rfl) (fun q hq => absurd hq List.not_mem_nil) fun cdv A outer s H E B hr => ?_
    have tk := takes_cx (P := P) (w := w) (K := K) (mg := mg) (base := base) (N := N_leading_place) (qual := "leading_place") (scope := defScope s_leading_place) (f := f) (cdv := cdv) (A := A) (outer := outer) (s := s) (H := H) (E := E)
    unfold bLeadingPlace
    exact (dss_cons (ds_for PassesOwn.leaving rfl (di_enum (by rfl) G.f_enumerate (da_cons (vv 0) da_nil)) (pg_tup rfl (pgs_cons (pg_name (i := 1) nd rfl (by first | exact .inl rfl | exact .inr rfl) (by first | exact .inl rfl | exact .inr rfl)) (pgs_cons (pg_name (i := 2) nd rfl (by first | exact .inl rfl | exact .inr rfl) (by first | exact .inl rfl | exact .inr rfl)) pgs_nil))) (gd_tup (gsd_cons gd_name (gsd_cons gd_name gsd_nil))) (dss_one (ds_if (dt_cmp (op_neD (unitsOk hr)) opd_ne (vv 2) de_int (nomark _)) (dss_one (ds_ret (vv 1))) dss_nil)))
  (dss_one (ds_ret (len_ G.f_len (da_cons (vv 0) da_nil)))))
  exact hC
theorem sc_multiplied : FnScope N_multiplied P_multiplied (defScope s_multiplied) := ⟨rfl, rfl, rfl, by decide +kernel, rfl, by decide +kernel, by decide +kernel⟩
theorem ok_multiplied (G : GS K mg) (GE : Errs P w K mg base)  : Callee P w K mg base "multiplied" P_multiplied [] 1 mMultiplied := by
  obtain ⟨f, fd, hm, F⟩ := G.d_multiplied
  have E := G.ef
  have nd := (sc_multiplied).nd
  have hC : Callee P w K mg base "multiplied" P_multiplied [] (0 + 1) (cleanD (defD N_multiplied.length bMultiplied)) := by
    refine callee hm F sc_multiplied (fun _ _ _ _ _ _ us hl => match us, hl with | [_, _, _], _ => rfl) (fun q hq => absurd hq List.not_mem_nil) fun cdv A outer s H E B hr => ?_
    have tk := takes_cx (P := P) (w := w) (K := K) (mg := mg) (base := base) (N := N_multiplied) (qual := "multiplied") (scope := defScope s_multiplied) (f := f) (cdv := cdv) (A := A) (outer := outer) (s := s) (H := H) (E := E)
    unfold bMultiplied
    exact (dss_one (ds_ret (tuple_ G.f_tuple (da_cons (de_lc (own := [("entry", 3)]) rfl nd (di_seq (vv 0)) (blkOk_by (by kernel_rfl)) gd_name (by decide) (fun _ _ _ _ _ => (pg_name (i := 3) nd rfl (by first | exact .inl rfl | exact .inr rfl) (by first | exact .inl rfl | exact .inr rfl))) (fun _ _ _ _ _ _ => dts_nil) (fun _ _ _ _ _ _ => (de_op op_mod opd_mod (de_op op_mulA opd_mul (vv 3) (vv 1)) (vv 2)))) da_nil))))
  exact hC
theorem sc_inverse : FnScope N_inverse P_inverse (defScope s_inverse) := ⟨rfl, rfl, rfl, by decide +kernel, rfl, by decide +kernel, by decide +kernel⟩
theorem ok_inverse (G : GS K mg) (GE : Errs P w K mg base)  : Callee P w K mg base "inverse" P_inverse [] 1 mInverse := by
  obtain ⟨f, fd, hm, F⟩ := G.d_inverse
  have E := G.ef
  have nd := (sc_inverse).nd
  have hC : Callee P w K mg base "inverse" P_inverse [] (0 + 1) (cleanD (defD N_inverse.length bInverse)) := by
    refine callee hm F sc_inverse (fun _ _ _ _ _ _ us hl => match us, hl with | [_, _], _ => rfl) (fun q hq => absurd hq List.not_mem_nil) fun cdv A outer s H E B hr => ?_
    have tk := takes_cx (P := P) (w := w) (K := K) (mg := mg) (base := base) (N := N_inverse) (qual := "inverse") (scope := defScope s_inverse) (f := f) (cdv := cdv) (A := A) (outer := outer) (s := s) (H := H) (E := E)
    unfold bInverse
    exact (dss_one (ds_ret (ix_ (de_lc (own := [("other", 2)]) rfl nd (di_range2 (by rfl) G.f_range (da_cons de_int (da_cons (vv 1) da_nil))) (blkOk_by (by kernel_rfl)) gd_name (by decide) (fun _ _ _ _ _ => (pg_name (i := 2) nd rfl (by first | exact .inl rfl | exact .inr rfl) (by first | exact .inl rfl | exact .inr rfl))) (fun _ _ _ _ _ _ => (dts_one (dt_cmp (op_eqD (unitsOk hr)) opd_eq (de_op op_mod opd_mod (de_op op_mulA opd_mul (vv 0) (vv 2)) (vv 1)) de_int (nomark _)))) (fun _ _ _ _ _ _ => (vv 2))) de_int)))
  exact hC
theorem sc_scaled : FnScope N_scaled P_scaled (defScope s_scaled) := ⟨rfl, rfl, rfl, by decide +kernel, rfl, by decide +kernel, by decide +kernel⟩
theorem ok_scaled (G : GS K mg) (GE : Errs P w K mg base) (C_leading_place : Callee P w K mg base "leading_place" P_leading_place [] 1 mLeadingPlace) (C_multiplied : Callee P w K mg base "multiplied" P_multiplied [] 1 mMultiplied) (C_inverse : Callee P w K mg base "inverse" P_inverse [] 1 mInverse) : Callee P w K mg base "scaled" P_scaled [] 2 mScaled := by
  obtain ⟨f, fd, hm, F⟩ := G.d_scaled
  have E := G.ef
  have nd := (sc_scaled).nd
  have hC : Callee P w K mg base "scaled" P_scaled [] (1 + 1) (cleanD (defD N_scaled.length bScaled)) := by
    refine callee hm F sc_scaled (fun _ _ _ _ _ _ us hl => match us, hl with | [_, _], _ => rfl) (fun q hq => absurd hq List.not_mem_nil) fun cdv A outer s H E B hr => ?_
    have tk := takes_cx (P := P) (w := w) (K := K) (mg := mg) (base := base) (N := N_scaled) (qual := "scaled") (scope := defScope s_scaled) (f := f) (cdv := cdv) (A := A) (outer := outer) (s := s) (H := H) (E := E)
    unfold bScaled
    exact (dss_cons (ds_set nd rfl (by first | exact .inl rfl | exact .inr rfl) (de_callN C_leading_place (hr.mono (by decide)) tk (by rfl) (da_cons (vv 0) da_nil)))
  (dss_cons (ds_if (dt_cmp (op_eqD (unitsOk hr)) opd_eq (vv 2) (len_ G.f_len (da_cons (vv 0) da_nil)) (nomark _)) (dss_one (ds_ret (tuple_ G.f_tuple (da_cons (vv 0) da_nil)))) dss_nil)
  (dss_one (ds_ret (de_callN C_multiplied (hr.mono (by decide)) tk (by rfl) (da_cons (vv 0) (da_cons (de_callN C_inverse (hr.mono (by decide)) tk (by rfl) (da_cons (ix_ (vv 0) (vv 2)) (da_cons (vv 1) da_nil))) (da_cons (vv 1) da_nil))))))))
  exact hC
theorem sc_scaled_rows : GScope N_scaled_rows P_scaled_rows (defScope s_scaled_rows) := ⟨rfl, rfl, rfl, by decide +kernel, rfl, by decide +kernel, by decide +kernel⟩
theorem nc_scaled_rows : ∀ y ∈ (defScope s_scaled_rows).names, y.2 ≠ .cell := noCell_by (by kernel_rfl)
theorem ok_scaled_rows (G : GS K mg) (GE : Errs P w K mg base) (C_check_field : Callee P w K mg base "check_field" P_check_field [] 3 (Pk.m_check_field zz)) (C_rows_from : Callee P w K mg base "rows_from" P_rows_from [] 1 Pk.m_rows_from) (C_scaled : Callee P w K mg base "scaled" P_scaled [] 2 mScaled) (C_leading_place : Callee P w K mg base "leading_place" P_leading_place [] 1 mLeadingPlace) : CalleeG P w K mg base "scaled_rows" P_scaled_rows ([(0, ["length", "prime"], [1, 0])] : List (Nat × List Str × List Nat)) 4 (Pk.m_scaled_rows zz) := by
  obtain ⟨fA, fd, hm, F⟩ := G.d_scaled_rows
  have E := G.ef
  have nd := (sc_scaled_rows).nd
  have hC : CalleeG P w K mg base "scaled_rows" P_scaled_rows ([(0, ["length", "prime"], [1, 0])] : List (Nat × List Str × List Nat)) (3 + 1) (genD N_scaled_rows.length (Pk.b_scaled_rows zz)) := by
    refine calleeG hm F sc_scaled_rows nc_scaled_rows (fun _ _ _ _ _ _ us hl => match us, hl with | [_, _], _ => rfl) (by
    intro q hq
    simp only [List.mem_cons, List.not_mem_nil, or_false] at hq
    subst hq
    · exact fun _ _ _ _ _ _ us ws h1 h2 => match us, ws, h1, h2 with | [], [_, _], _, _ => rfl
    ) fun cdv A outer L hrG => ?_
    have hcl := hclG (F := (⟨P, w, K, mg, base, N_scaled_rows, "scaled_rows", defScope s_scaled_rows, fA, cdv, A, outer, L⟩ : GF)) sc_scaled_rows nc_scaled_rows
    unfold Pk.b_scaled_rows
    exact (gds_cons (gd_plain (fun s Hw Gx E0 pn hs => have tk := takesG (F := (⟨P, w, K, mg, base, N_scaled_rows, "scaled_rows", defScope s_scaled_rows, fA, cdv, A, outer, L⟩ : GF)) (s := s) (H := Hw) (E := E0) (pn := pn); have hr := roomG (F := (⟨P, w, K, mg, base, N_scaled_rows, "scaled_rows", defScope s_scaled_rows, fA, cdv, A, outer, L⟩ : GF)) (s := s) (H := Hw) (E := E0) (pn := pn) hs hrG; (ds_expr (de_callN C_check_field (hr.mono (by decide)) tk (by rfl) (da_cons (vv 0) (da_cons (vv 1) da_nil))))))
  (gds_one (gd_for hcl (fun s Hw Gx E0 pn hs => have tk := takesG (F := (⟨P, w, K, mg, base, N_scaled_rows, "scaled_rows", defScope s_scaled_rows, fA, cdv, A, outer, L⟩ : GF)) (s := s) (H := Hw) (E := E0) (pn := pn); have hr := roomG (F := (⟨P, w, K, mg, base, N_scaled_rows, "scaled_rows", defScope s_scaled_rows, fA, cdv, A, outer, L⟩ : GF)) (s := s) (H := Hw) (E := E0) (pn := pn) hs hrG; (di_seq (de_callN C_rows_from (hr.mono (by decide)) tk (by rfl) (da_cons (vv 0) (da_cons (vv 1) da_nil))))) (fun s Hw E0 pn hs => (pg_name (i := 2) nd rfl (by first | exact .inl rfl | exact .inr rfl) (by first | exact .inl rfl | exact .inr rfl))) gd_name (gds_cons (gd_plain (fun s Hw Gx E0 pn hs => have tk := takesG (F := (⟨P, w, K, mg, base, N_scaled_rows, "scaled_rows", defScope s_scaled_rows, fA, cdv, A, outer, L⟩ : GF)) (s := s) (H := Hw) (E := E0) (pn := pn); have hr := roomG (F := (⟨P, w, K, mg, base, N_scaled_rows, "scaled_rows", defScope s_scaled_rows, fA, cdv, A, outer, L⟩ : GF)) (s := s) (H := Hw) (E := E0) (pn := pn) hs hrG; (ds_if (dw_t (dw_or (dt_cmp (op_neD (unitsOk hr)) opd_ne (vv 2) (de_callN C_scaled (hr.mono (by decide)) tk (by rfl) (da_cons (vv 2) (da_cons (vv 0) da_nil))) (nomark _)) (dw_or1 (dt_cmp (op_eqD (unitsOk hr)) opd_eq (de_callN C_leading_place (hr.mono (by decide)) tk (by rfl) (da_cons (vv 2) da_nil)) (vv 1) (nomark _))))) (dss_one ds_cont) dss_nil)))
  (gds_one (gd_yield hcl (sc_scaled_rows).co (by rfl) (fun s Hw Gx E0 pn hs => have tk := takesG (F := (⟨P, w, K, mg, base, N_scaled_rows, "scaled_rows", defScope s_scaled_rows, fA, cdv, A, outer, L⟩ : GF)) (s := s) (H := Hw) (E := E0) (pn := pn); have hr := roomG (F := (⟨P, w, K, mg, base, N_scaled_rows, "scaled_rows", defScope s_scaled_rows, fA, cdv, A, outer, L⟩ : GF)) (s := s) (H := Hw) (E := E0) (pn := pn) hs hrG; (vv 2))))) (by intro _; rfl))))
  exact hC
theorem sc__law_field : FnScope N__law_field P__law_field (defScope s__law_field) := ⟨rfl, rfl, rfl, by decide +kernel, rfl, by decide +kernel, by decide +kernel⟩
theorem cf_ok (G : GS K mg) (E : ErrFs K mg fc) : CalleeF P w K mg base "_law_field" P__law_field 1 (mField fc) := by
  obtain ⟨f, fd, hm, F⟩ := G.d__law_field
  have nd := (sc__law_field).nd
  refine ⟨f, fd, hm, F.kp, F.bindsN (fun _ _ _ _ _ _ us hl => match us, hl with | [_], _ => rfl), def_okF (N := N__law_field) (m := bField fc) F sc__law_field (k := 0) fun cdv A outer s H B hr => ?_⟩
  unfold bField
  exact (dss_cons (ds_if (dt_cmp op_in_seq (opd_inS false) (de_attr (vv 0) E.code) (de_tup (da_cons de_str (da_cons de_str (da_cons de_str (da_cons de_str (da_cons de_str (da_cons de_str (da_cons de_str (da_cons de_str da_nil))))))))) (by rfl)) (dss_one (ds_ret (de_tup (da_cons (de_attr (vv 0) E.given) da_nil)))) dss_nil)
  (dss_cons (ds_if (dt_cmp op_in_seq (opd_inS false) (de_attr (vv 0) E.code) (de_tup (da_cons de_str (da_cons de_str (da_cons de_str da_nil)))) (by rfl)) (dss_one (ds_ret (de_tup (da_cons (de_attr (vv 0) E.at_) da_nil)))) dss_nil)
  (dss_cons (ds_if (dt_cmp op_in_seq (opd_inS false) (de_attr (vv 0) E.code) (de_tup (da_cons de_str (da_cons de_str (da_cons de_str (da_cons de_str (da_cons de_str da_nil)))))) (by rfl)) (dss_one (ds_ret (de_tup (da_cons (de_attr (vv 0) E.name) da_nil)))) dss_nil)
  (dss_cons (ds_if (dt_cmp op_in_seq (opd_inS false) (de_attr (vv 0) E.code) (de_tup (da_cons de_str (da_cons de_str da_nil))) (by rfl)) (dss_one (ds_ret (de_tup (da_cons (de_attr (vv 0) E.most) da_nil)))) dss_nil)
  (dss_cons (ds_if (dt_cmp (op_eqD (unitsF hr)) opd_eq (de_attr (vv 0) E.code) de_str (nomark _)) (dss_one (ds_ret (de_tup (da_cons (de_attr (vv 0) E.cost) da_nil)))) dss_nil)
  (dss_one (ds_ret (de_if (dt_cmp (op_eqD (unitsF hr)) opd_eq (de_attr (vv 0) E.code) de_str (nomark _)) (de_tup (da_cons (de_attr (vv 0) E.line) da_nil)) (de_tup da_nil)))))))))
theorem sc__law_why : FnScope N__law_why P__law_why (defScope s__law_why) := ⟨rfl, rfl, rfl, by decide +kernel, rfl, by decide +kernel, by decide +kernel⟩
theorem ok_lam_0 (G : GS K mg) (GE : Errs P w K mg base) (C_scaled_rows : CalleeG P w K mg base "scaled_rows" P_scaled_rows ([(0, ["length", "prime"], [1, 0])] : List (Nat × List Str × List Nat)) 4 (Pk.m_scaled_rows zz)) : LamOk P w K mg base 5 lam_0 lm_0 := by
  have E := G.ef
  refine ⟨⟨N_lam_0, [], lb_0, NdefX.nscope_by (by decide +kernel), ⟨fun _ => ⟨rfl, fun _ _ _ _ _ => rfl⟩, fun h => absurd h (by decide)⟩, fun A outer s H E f cl c' B hr => ?_, fun _ _ => rfl⟩⟩
  have nd : N_lam_0.Nodup := by decide +kernel
  have tk : Takes (NdefX.ncx (L2.CX P w) P w K mg base N_lam_0 (nfOf lam_0 cl c') f A outer s H E) (fun cls d _ H => E cls d H) := takes_of rfl rfl rfl rfl
  unfold lb_0
  exact (de_lcG (own := [("_law_row", 2)]) (.inr ⟨rfl, rfl, tk, G.nst⟩) rfl nd (hr.mono (by decide)) (dgen_call C_scaled_rows (hr.mono (by decide)) (by rfl) (da_cons (vv 0) (da_cons (vv 1) da_nil))) (blkOk_by (by kernel_rfl)) (noCell_by (by kernel_rfl)) gd_name (by decide) (fun _ _ _ _ _ => (pg_name (i := 2) nd rfl (by first | exact .inl rfl | exact .inr rfl) (by first | exact .inl rfl | exact .inr rfl))) (fun _ _ _ _ _ _ => dts_nil) (fun _ _ _ _ _ _ => (vv 2)))
theorem ok_lam_1 (G : GS K mg) (GE : Errs P w K mg base) (C_scaled_rows : CalleeG P w K mg base "scaled_rows" P_scaled_rows ([(0, ["length", "prime"], [1, 0])] : List (Nat × List Str × List Nat)) 4 (Pk.m_scaled_rows zz)) : LamOk P w K mg base 5 lam_1 lm_1 := by
  have E := G.ef
  refine ⟨⟨N_lam_1, ["_law_a"], lb_1, NdefX.nscope_by (by decide +kernel), ⟨fun h => absurd h (by decide), fun _ => ⟨"_law_a", rfl, fun _ _ _ _ _ _ => ⟨_, rfl, fun _ => rfl⟩⟩⟩, fun A outer s H E f cl c' B hr => ?_, fun _ _ => rfl⟩⟩
  have nd : N_lam_1.Nodup := by decide +kernel
  have tk : Takes (NdefX.ncx (L2.CX P w) P w K mg base N_lam_1 (nfOf lam_1 cl c') f A outer s H E) (fun cls d _ H => E cls d H) := takes_of rfl rfl rfl rfl
  unfold lb_1
  exact (de_lcG (own := [("_law_row", 2)]) (.inr ⟨rfl, rfl, tk, G.nst⟩) rfl nd (hr.mono (by decide)) (dgen_call C_scaled_rows (hr.mono (by decide)) (by rfl) (da_cons de_int (da_cons (vv 1) da_nil))) (blkOk_by (by kernel_rfl)) (noCell_by (by kernel_rfl)) gd_name (by decide) (fun _ _ _ _ _ => (pg_name (i := 2) nd rfl (by first | exact .inl rfl | exact .inr rfl) (by first | exact .inl rfl | exact .inr rfl))) (fun _ _ _ _ _ _ => dts_nil) (fun _ _ _ _ _ _ => (vv 2)))
theorem ok__law_why (G : GS K mg) (all : ∀ j, j < 2 → LamOk P w K mg base 5 (lams j) (ltab j)) : Callee P w K mg base "_law_why" P__law_why [] 7 m__law_why := by
  obtain ⟨f, fd, hm, F⟩ := G.d__law_why
  have E := G.ef
  have CF := cf_ok (P := P) (w := w) (base := base) G G.ef
  have nd := (sc__law_why).nd
  have hC : Callee P w K mg base "_law_why" P__law_why [] (6 + 1) (cleanD (defD N__law_why.length (bWhy fc (dAskC 0 2 lams ltab)))) := by
    refine callee hm F sc__law_why (fun _ _ _ _ _ _ us hl => match us, hl with | [_], _ => rfl) (fun q hq => absurd hq List.not_mem_nil) fun cdv A outer s H E0 B hr => ?_
    have tk := takes_cx (P := P) (w := w) (K := K) (mg := mg) (base := base) (N := N__law_why) (qual := "_law_why") (scope := defScope s__law_why) (f := f) (cdv := cdv) (A := A) (outer := outer) (s := s) (H := H) (E := E0)
    unfold bWhy
    exact dss_one (ds_try3 (cs := fc "code") rfl rfl rfl nd rfl rfl ⟨rfl, by decide, .inl G.m_CallError⟩ ⟨rfl, by decide, .inl G.m_Missing⟩ ⟨rfl, by decide, .inl G.m_NothingLeft⟩ tk G.cat (fun W pn xe tk po => dss_one (ds_ret (de_tup (da_cons de_str (da_cons (de_askC (i := 0) (n := 2) (k := 5) (lams := lams) (tab := ltab) rfl (by first | exact .inl rfl | exact .inr (.inl rfl)) (by decide) (by decide) tk (hr.mono (by decide)) all) da_nil))))) (fun a pn => dss_one (ds_ret (de_op op_addA opd_add (de_tup (da_cons (de_attr (vv 1) E.code) da_nil)) (de_callF CF (let h := RoomF.of (hr.mono (show 1 ≤ 6 by decide)); ⟨h.deep, h.many⟩) rfl (da_cons (vv 1) da_nil))))))
  exact hC
theorem sc_law : FnScope N_law P_law (defScope s_law) := ⟨rfl, rfl, rfl, by decide +kernel, rfl, by decide +kernel, by decide +kernel⟩
theorem ok_all (G : GS K mg) (GE : Errs P w K mg base) (TB : LamX.TabB base mg (He.cT K ("law", none)).1 (He.cT K ("law", none)).2) {fd : FuncData} (F : FunD K "law" "law" (defArgs s_law) (defBody s_law) (defScope s_law) [] [] (He.fAd K ("law", none)) fd) : FnOk P w K mg base (L2.CX P w) 13 (He.fAd K ("law", none)) fd P_law (spL ⟨K, mg⟩ 1 m_law) := by
  have C__law_source := ok__law_source (P := P) (w := w) (base := base) G GE 
  have C__law_draw := ok__law_draw (P := P) (w := w) (base := base) G GE 
  have C__law_of := ok__law_of (P := P) (w := w) (base := base) G GE C__law_draw
  have C__law_sizes := ok__law_sizes (P := P) (w := w) (base := base) G GE C__law_of
  have C__law_sum := ok__law_sum (P := P) (w := w) (base := base) G GE 
  have C__law_span := ok__law_span (P := P) (w := w) (base := base) G GE C__law_sum
  have C__law_lead := ok__law_lead (P := P) (w := w) (base := base) G GE 
  have C__law_scaled_rows := ok__law_scaled_rows (P := P) (w := w) (base := base) G GE C__law_span C__law_lead
  have C__law_like := ok__law_like (P := P) (w := w) (base := base) G GE  12
  have C_is_integer := ok_is_integer (P := P) (w := w) (base := base) G GE 
  have C_is_within := ok_is_within (P := P) (w := w) (base := base) G GE C_is_integer
  have C_worths_count := ok_worths_count (P := P) (w := w) (base := base) G GE 
  have C_check_field := ok_check_field (P := P) (w := w) (base := base) G GE C_is_integer C_is_within C_worths_count
  have C_rows_from := ok_rows_from (P := P) (w := w) (base := base) G GE 
  have C_leading_place := ok_leading_place (P := P) (w := w) (base := base) G GE 
  have C_multiplied := ok_multiplied (P := P) (w := w) (base := base) G GE 
  have C_inverse := ok_inverse (P := P) (w := w) (base := base) G GE 
  have C_scaled := ok_scaled (P := P) (w := w) (base := base) G GE C_leading_place C_multiplied C_inverse
  have C_scaled_rows := ok_scaled_rows (P := P) (w := w) (base := base) G GE C_check_field C_rows_from C_scaled C_leading_place
  have LO_0 := ok_lam_0 (P := P) (w := w) (base := base) G GE C_scaled_rows
  have LO_1 := ok_lam_1 (P := P) (w := w) (base := base) G GE C_scaled_rows
  have C__law_why := ok__law_why (P := P) (w := w) (base := base) G (fun j hj => match j, hj with | 0, _ => LO_0 | 1, _ => LO_1 | j + 2, hj => absurd hj (by omega))
  have E := G.ef
  have CF := cf_ok (P := P) (w := w) (base := base) G E
  have nd := (sc_law).nd
  refine def_okL F sc_law (k := 12) (m := b_law) fun A outer s H E0 B hr => ?_
  have tk := takes_cx (P := P) (w := w) (K := K) (mg := mg) (base := base) (N := N_law) (qual := "law") (scope := defScope s_law) (f := He.fAd K ("law", none)) (cdv := .ref (He.codeOf K ("law", none))) (A := A) (outer := outer) (s := s) (H := H) (E := E0)
  unfold b_law
  exact (dss_cons (ds_set nd rfl (by first | exact .inl rfl | exact .inr rfl) (de_callN C__law_source (hr.mono (by decide)) tk (by rfl) (da_cons (vv 0) da_nil)))
  (dss_cons (ds_for PassesOwn.leaving rfl (di_range1 (by rfl) G.f_range (da_cons de_int da_nil)) (pg_name (i := 2) nd rfl (by first | exact .inl rfl | exact .inr rfl) (by first | exact .inl rfl | exact .inr rfl)) gd_name (dss_cons (ds_asgG (ps_asg (de_callN C__law_sizes (hr.mono (by decide)) tk (by rfl) (da_cons (vv 1) da_nil)).run (pg_tup rfl (pgs_cons (pg_name (i := 3) nd rfl (by first | exact .inl rfl | exact .inr rfl) (by first | exact .inl rfl | exact .inr rfl)) (pgs_cons (pg_name (i := 4) nd rfl (by first | exact .inl rfl | exact .inr rfl) (by first | exact .inl rfl | exact .inr rfl)) pgs_nil)))) (fun _ _ _ h => h) (gd_tup (gsd_cons gd_name (gsd_cons gd_name gsd_nil))))
  (dss_cons (ds_setLcG (i := 5) (hc := rfl) (hN := nd) (hy := rfl) (hyl := rfl) (hsw := sw_true rfl rfl rfl (by decide +kernel)) (own := [("_law_row", 13)]) (.inr ⟨rfl, rfl, tk, G.nst⟩) (hr.mono (by decide)) (dgen_call C_scaled_rows (hr.mono (by decide)) (by rfl) (da_cons (vv 3) (da_cons (vv 4) da_nil))) (blkOk_by (by kernel_rfl)) (noCell_by (by kernel_rfl)) gd_name (by decide) (fun _ _ _ _ _ => (pg_name (i := 13) nd rfl (by first | exact .inl rfl | exact .inr rfl) (by first | exact .inl rfl | exact .inr rfl))) (fun _ _ _ _ _ _ => dts_nil) (fun _ _ _ _ _ _ => (vv 13)))
  (dss_cons (ds_setLcG (i := 6) (hc := rfl) (hN := nd) (hy := rfl) (hyl := rfl) (hsw := sw_true rfl rfl rfl (by decide +kernel)) (own := [("_law_row", 13)]) (.inr ⟨rfl, rfl, tk, G.nst⟩) (hr.mono (by decide)) (dgen_callK0 (ks := ["length", "prime"]) (q := [1, 0]) C_scaled_rows (hr.mono (by decide)) (by rfl) (by simp) (dk_cons (vv 4) (dk_cons (vv 3) dk_nil))) (blkOk_by (by kernel_rfl)) (noCell_by (by kernel_rfl)) gd_name (by decide) (fun _ _ _ _ _ => (pg_name (i := 13) nd rfl (by first | exact .inl rfl | exact .inr rfl) (by first | exact .inl rfl | exact .inr rfl))) (fun _ _ _ _ _ _ => dts_nil) (fun _ _ _ _ _ _ => (vv 13)))
  (dss_cons (ds_set nd rfl (by first | exact .inl rfl | exact .inr rfl) (de_callN C__law_scaled_rows (hr.mono (by decide)) tk (by rfl) (da_cons (vv 3) (da_cons (vv 4) da_nil))))
  (dss_cons (ds_set nd rfl (by first | exact .inl rfl | exact .inr rfl) de_int)
  (dss_cons (ds_for PassesOwn.leaving rfl (di_range1 (by rfl) G.f_range (da_cons (vv 4) da_nil)) (pg_name (i := 9) nd rfl (by first | exact .inl rfl | exact .inr rfl) (by first | exact .inl rfl | exact .inr rfl)) gd_name (dss_one (ds_set nd rfl (by first | exact .inl rfl | exact .inr rfl) (de_op op_mulA opd_mul (vv 8) (vv 3)))))
  (dss_cons (ds_if (dw_t (dw_or (dt_not (dt_val (de_callN C__law_like (hr.mono (by decide)) tk (by rfl) (da_cons (vv 5) (da_cons (vv 7) da_nil))) (by intro _; rfl))) (dw_or (dt_cmp (op_neD (unitsOk hr)) opd_ne (vv 6) (vv 7) (nomark _)) (dw_or1 (dt_cmp (op_neD (unitsOk hr)) opd_ne (de_op op_mulA opd_mul (len_ G.f_len (da_cons (vv 7) da_nil)) (de_op op_sub opd_sub (vv 3) de_int)) (de_op op_sub opd_sub (vv 8) de_int) (nomark _)))))) (dss_one (ds_ret de_bl)) dss_nil)
  (dss_cons (ds_set nd rfl (by first | exact .inl rfl | exact .inr rfl) (de_callN C__law_of (hr.mono (by decide)) tk (by rfl) (da_cons (vv 1) (da_cons (de_lst (da_cons de_int (da_cons de_non (da_cons de_bl (da_cons de_str da_nil))))) da_nil))))
  (dss_cons (ds_set nd rfl (by first | exact .inl rfl | exact .inr rfl) (de_callN C__law_of (hr.mono (by decide)) tk (by rfl) (da_cons (vv 1) (da_cons (de_lst (da_cons de_int (da_cons de_int (da_cons de_non (da_cons de_bl (da_cons (de_op op_sub opd_sub de_int de_int) da_nil)))))) da_nil))))
  (dss_cons (ds_set nd rfl (by first | exact .inl rfl | exact .inr rfl) (de_lst (da_cons (de_lamV (k := 0) (pl := ("law", none)) (L := lam_0) TB rfl (lamF_by (by kernel_rfl)) rfl rfl rfl rfl) (da_cons (de_lamV1 (k := 0) (pl := ("law", none)) (L := lam_1) TB rfl (lamF_by (by kernel_rfl)) rfl rfl rfl rfl rfl) da_nil))))
  (dss_one (ds_if (dt_not (dt_val (de_callN C__law_like (hr.mono (by decide)) tk (by rfl) (da_cons (de_lcZ (own := [("_law_ask", 14)]) rfl nd (fun _ _ _ => rfl) (di_seq (vv 12)) (blkOk_by (by kernel_rfl)) (noBoth_by (by kernel_rfl)) gd_name (by decide) (fun _ _ _ _ _ => (pg_name (i := 14) nd rfl (by first | exact .inl rfl | exact .inr rfl) (by first | exact .inl rfl | exact .inr rfl))) (fun _ _ _ _ _ _ => (de_callN C__law_why (hr.mono (by decide)) takes0 (by rfl) (da_cons (vv 14) da_nil)))) (da_cons (de_lst (da_cons (de_tup (da_cons de_str (da_cons (vv 10) da_nil))) (da_cons (de_tup (da_cons de_str (da_cons (vv 11) da_nil))) da_nil))) da_nil))) (by intro _; rfl))) (dss_one (ds_ret de_bl)) dss_nil)))))))))))))
  (dss_one (ds_ret (de_cmp (op_eqD (unitsOk hr)) opd_eq (de_lcG (own := [("_law_row", 13)]) (.inr ⟨rfl, rfl, tk, G.nst⟩) rfl nd (hr.mono (by decide)) (dgen_call C_scaled_rows (hr.mono (by decide)) (by rfl) (da_cons de_int (da_cons de_int da_nil))) (blkOk_by (by kernel_rfl)) (noCell_by (by kernel_rfl)) gd_name (by decide) (fun _ _ _ _ _ => (pg_name (i := 13) nd rfl (by first | exact .inl rfl | exact .inr rfl) (by first | exact .inl rfl | exact .inr rfl))) (fun _ _ _ _ _ _ => dts_nil) (fun _ _ _ _ _ _ => (vv 13))) (de_lst (da_cons (de_tup (da_cons de_int (da_cons de_int da_nil))) (da_cons (de_tup (da_cons de_int (da_cons de_int da_nil))) (da_cons (de_tup (da_cons de_int (da_cons de_int da_nil))) (da_cons (de_tup (da_cons de_int (da_cons de_int da_nil))) da_nil))))) (nomark _))))))
end
abbrev qs : List ((Str × Option Str) × Str) := [(("law", none), "law.<locals>.<lambda>")]
/-- what the law comes down to -/
def Pure : Prop := ∀ ns : List Int, ns.length ≤ 63 → ∀ cells, ∃ μ : Mu, m_law cells [.scr (ns.map D.int)] (qs.map fun z => MObj.tab z.1 z.2) = some (.val (.bl true), μ)
/-! ### the head -/
def dd__law_source : He.DefD := ⟨("_law_source", none), "_law_source", "_law_source", defArgs s__law_source, defBody s__law_source, defScope s__law_source, [], []⟩
def dd__law_draw : He.DefD := ⟨("_law_draw", none), "_law_draw", "_law_draw", defArgs s__law_draw, defBody s__law_draw, defScope s__law_draw, [], []⟩
def dd__law_of : He.DefD := ⟨("_law_of", none), "_law_of", "_law_of", defArgs s__law_of, defBody s__law_of, defScope s__law_of, [], []⟩
def dd__law_sizes : He.DefD := ⟨("_law_sizes", none), "_law_sizes", "_law_sizes", defArgs s__law_sizes, defBody s__law_sizes, defScope s__law_sizes, [], []⟩
def dd__law_sum : He.DefD := ⟨("_law_sum", none), "_law_sum", "_law_sum", defArgs s__law_sum, defBody s__law_sum, defScope s__law_sum, [], []⟩
def dd__law_span : He.DefD := ⟨("_law_span", none), "_law_span", "_law_span", defArgs s__law_span, defBody s__law_span, defScope s__law_span, [], []⟩
def dd__law_lead : He.DefD := ⟨("_law_lead", none), "_law_lead", "_law_lead", defArgs s__law_lead, defBody s__law_lead, defScope s__law_lead, [], []⟩
def dd__law_scaled_rows : He.DefD := ⟨("_law_scaled_rows", none), "_law_scaled_rows", "_law_scaled_rows", defArgs s__law_scaled_rows, defBody s__law_scaled_rows, defScope s__law_scaled_rows, [], []⟩
def dd__law_like : He.DefD := ⟨("_law_like", none), "_law_like", "_law_like", defArgs s__law_like, defBody s__law_like, defScope s__law_like, [], []⟩
def dd_is_integer : He.DefD := ⟨("is_integer", none), "is_integer", "is_integer", defArgs s_is_integer, defBody s_is_integer, defScope s_is_integer, [], []⟩
def dd_is_within : He.DefD := ⟨("is_within", none), "is_within", "is_within", defArgs s_is_within, defBody s_is_within, defScope s_is_within, [], []⟩
def dd_worths_count : He.DefD := ⟨("worths_count", none), "worths_count", "worths_count", defArgs s_worths_count, defBody s_worths_count, defScope s_worths_count, [], []⟩
def dd_check_field : He.DefD := ⟨("check_field", none), "check_field", "check_field", defArgs s_check_field, defBody s_check_field, defScope s_check_field, [], []⟩
def dd_rows_from : He.DefD := ⟨("rows_from", none), "rows_from", "rows_from", defArgs s_rows_from, defBody s_rows_from, defScope s_rows_from, [], []⟩
def dd_leading_place : He.DefD := ⟨("leading_place", none), "leading_place", "leading_place", defArgs s_leading_place, defBody s_leading_place, defScope s_leading_place, [], []⟩
def dd_multiplied : He.DefD := ⟨("multiplied", none), "multiplied", "multiplied", defArgs s_multiplied, defBody s_multiplied, defScope s_multiplied, [], []⟩
def dd_inverse : He.DefD := ⟨("inverse", none), "inverse", "inverse", defArgs s_inverse, defBody s_inverse, defScope s_inverse, [], []⟩
def dd_scaled : He.DefD := ⟨("scaled", none), "scaled", "scaled", defArgs s_scaled, defBody s_scaled, defScope s_scaled, [], []⟩
def dd_scaled_rows : He.DefD := ⟨("scaled_rows", none), "scaled_rows", "scaled_rows", defArgs s_scaled_rows, defBody s_scaled_rows, defScope s_scaled_rows, [], []⟩
def dd__law_field : He.DefD := ⟨("_law_field", none), "_law_field", "_law_field", defArgs s__law_field, defBody s__law_field, defScope s__law_field, [], []⟩
def dd__law_why : He.DefD := ⟨("_law_why", none), "_law_why", "_law_why", defArgs s__law_why, defBody s__law_why, defScope s__law_why, [], []⟩
def dd_law : He.DefD := ⟨("law", none), "law", "law", defArgs s_law, defBody s_law, defScope s_law, [], []⟩
def hfn0 : List He.DefD := [dd__law_source, dd__law_draw, dd__law_of, dd__law_sizes, dd__law_sum, dd__law_span, dd__law_lead, dd__law_scaled_rows, dd__law_like, dd_is_integer, dd_is_within, dd_worths_count]
def hfn1 : List He.DefD := [dd_check_field, dd_rows_from, dd_leading_place, dd_multiplied, dd_inverse, dd_scaled, dd_scaled_rows, dd__law_field, dd__law_why, dd_law]
abbrev hfn : List He.DefD := hfn0 ++ hfn1
abbrev hfz : List He5.DefA := []
def hfa0 : List He.Fa := [.glo "_law_source", .glo "_law_draw", .glo "_law_of", .glo "_law_sizes", .glo "_law_sum", .glo "_law_span", .glo "_law_lead", .glo "_law_scaled_rows", .glo "_law_like", .glo "is_integer", .glo "is_within", .glo "worths_count"]
def hfa1 : List He.Fa := [.glo "check_field", .glo "rows_from", .glo "leading_place", .glo "multiplied", .glo "inverse", .glo "scaled", .glo "scaled_rows", .glo "_law_field", .glo "_law_why", .glo "law", .glo "PRIMES", .glo "CallError"]
def hfa2 : List He.Fa := [.glo "Missing", .glo "NothingLeft", .glo "InvalidLength", .glo "InvalidPrime", .free "all", .free "bool", .free "enumerate", .free "int", .free "isinstance", .free "len", .free "list", .free "range"]
def hfa3 : List He.Fa := [.free "sorted", .free "str", .free "super", .free "tuple", .free "zip", .int "MOST_WORTHS" 64]
abbrev hfa : List He.Fa := hfa0 ++ hfa1 ++ hfa2 ++ hfa3
def cd_InvalidLength : ClD := ⟨"InvalidLength", "__init__", "__init__", "InvalidLength.__init__", defArgs i_InvalidLength, defBody i_InvalidLength, defScope i_InvalidLength⟩
def cd_InvalidPrime : ClD := ⟨"InvalidPrime", "__init__", "__init__", "InvalidPrime.__init__", defArgs i_InvalidPrime, defBody i_InvalidPrime, defScope i_InvalidPrime⟩
def hfc0 : List ClD := [cd_InvalidLength, cd_InvalidPrime]
abbrev hfc : List ClD := hfc0
def hbe : List (List (PySem.W.Frag → Bool)) := [errBs .ve "InvalidLength" "given", errBs .ve "InvalidPrime" "given"]
def hbx : List (PySem.W.Frag → Bool) := [catB "InvalidLength" ["CallError", "Missing", "NothingLeft"], catB "InvalidPrime" ["CallError", "Missing", "NothingLeft"], fun K => He.tupB K "PRIMES" [.int 2, .int 3, .int 5, .int 7], stopB ["InvalidLength", "InvalidPrime"]]
abbrev hbs : List (PySem.W.Frag → Bool) := hbe.flatten ++ hbx
def htf : List He.Defn := [("law", none)]
def hnm0 : List PySem.Str := ["CallError", "Missing", "InvalidPrime", "InvalidLength", "NothingLeft", "PRIMES", "MOST_WORTHS", "is_integer", "is_within", "check_field", "worths_count", "inverse"]
def hnm1 : List PySem.Str := ["multiplied", "leading_place", "scaled", "rows_from", "scaled_rows", "_law_source", "_law_draw", "_law_of", "_law_like", "_law_field", "_law_why", "_law_sizes"]
def hnm2 : List PySem.Str := ["_law_lead", "_law_sum", "_law_span", "_law_scaled_rows"]
abbrev hnm : List PySem.Str := hnm0 ++ hnm1 ++ hnm2
abbrev R : PySem.W.OpenRow := PySem.W.OpenLaw.row PySem.Challenge.rw_mendcalls_k04_scaled_rows_in_order
abbrev P0 : Program := (PySem.Challenge.rw_mendcalls_k04_scaled_rows_in_order).prog
abbrev hfile : Str := "/claim/cut.py"
abbrev hk : PySem.W.Hook := hookZ hfile 5 hfa hfn hfc hbs htf hfz
def ob (s : PySem.W.SharedT) : AlZ := obsZ hfile 5 hfa hfn hfc hbs htf hfz (HandSHeadRun.getT s)
theorem ob_eq (s : PySem.W.SharedT) : ob s = hk.obs s.abs := obsZ_eq (HandSHeadRun.getT_eq s)
theorem run (w : World) : HandSHeadRun.RunEq R (PySem.W.view R.prog [31]) hk ob 9000 hnm w := by
  intro os
  kernel_rfl
section
variable {K : PySem.W.Frag} {h : Heap} {mg : Str → Option Value} (X : K.In h) (G : h.Ns mainGlobals mg) (c : SaysZ hfile hfa hfn hfc hbs htf hfz h K)
include X G c
theorem g__law_source : mg "_law_source" = some (.ref (He.ga K "_law_source")) := He.glo_ok X G (c.y.b.says.plain.fact 0 (f := .glo "_law_source") rfl)
theorem g__law_draw : mg "_law_draw" = some (.ref (He.ga K "_law_draw")) := He.glo_ok X G (c.y.b.says.plain.fact 1 (f := .glo "_law_draw") rfl)
theorem g__law_of : mg "_law_of" = some (.ref (He.ga K "_law_of")) := He.glo_ok X G (c.y.b.says.plain.fact 2 (f := .glo "_law_of") rfl)
theorem g__law_sizes : mg "_law_sizes" = some (.ref (He.ga K "_law_sizes")) := He.glo_ok X G (c.y.b.says.plain.fact 3 (f := .glo "_law_sizes") rfl)
theorem g__law_sum : mg "_law_sum" = some (.ref (He.ga K "_law_sum")) := He.glo_ok X G (c.y.b.says.plain.fact 4 (f := .glo "_law_sum") rfl)
theorem g__law_span : mg "_law_span" = some (.ref (He.ga K "_law_span")) := He.glo_ok X G (c.y.b.says.plain.fact 5 (f := .glo "_law_span") rfl)
theorem g__law_lead : mg "_law_lead" = some (.ref (He.ga K "_law_lead")) := He.glo_ok X G (c.y.b.says.plain.fact 6 (f := .glo "_law_lead") rfl)
theorem g__law_scaled_rows : mg "_law_scaled_rows" = some (.ref (He.ga K "_law_scaled_rows")) := He.glo_ok X G (c.y.b.says.plain.fact 7 (f := .glo "_law_scaled_rows") rfl)
theorem g__law_like : mg "_law_like" = some (.ref (He.ga K "_law_like")) := He.glo_ok X G (c.y.b.says.plain.fact 8 (f := .glo "_law_like") rfl)
theorem g_is_integer : mg "is_integer" = some (.ref (He.ga K "is_integer")) := He.glo_ok X G (c.y.b.says.plain.fact 9 (f := .glo "is_integer") rfl)
theorem g_is_within : mg "is_within" = some (.ref (He.ga K "is_within")) := He.glo_ok X G (c.y.b.says.plain.fact 10 (f := .glo "is_within") rfl)
theorem g_worths_count : mg "worths_count" = some (.ref (He.ga K "worths_count")) := He.glo_ok X G (c.y.b.says.plain.fact 11 (f := .glo "worths_count") rfl)
theorem g_check_field : mg "check_field" = some (.ref (He.ga K "check_field")) := He.glo_ok X G (c.y.b.says.plain.fact 12 (f := .glo "check_field") rfl)
theorem g_rows_from : mg "rows_from" = some (.ref (He.ga K "rows_from")) := He.glo_ok X G (c.y.b.says.plain.fact 13 (f := .glo "rows_from") rfl)
theorem g_leading_place : mg "leading_place" = some (.ref (He.ga K "leading_place")) := He.glo_ok X G (c.y.b.says.plain.fact 14 (f := .glo "leading_place") rfl)
theorem g_multiplied : mg "multiplied" = some (.ref (He.ga K "multiplied")) := He.glo_ok X G (c.y.b.says.plain.fact 15 (f := .glo "multiplied") rfl)
theorem g_inverse : mg "inverse" = some (.ref (He.ga K "inverse")) := He.glo_ok X G (c.y.b.says.plain.fact 16 (f := .glo "inverse") rfl)
theorem g_scaled : mg "scaled" = some (.ref (He.ga K "scaled")) := He.glo_ok X G (c.y.b.says.plain.fact 17 (f := .glo "scaled") rfl)
theorem g_scaled_rows : mg "scaled_rows" = some (.ref (He.ga K "scaled_rows")) := He.glo_ok X G (c.y.b.says.plain.fact 18 (f := .glo "scaled_rows") rfl)
theorem g__law_field : mg "_law_field" = some (.ref (He.ga K "_law_field")) := He.glo_ok X G (c.y.b.says.plain.fact 19 (f := .glo "_law_field") rfl)
theorem g__law_why : mg "_law_why" = some (.ref (He.ga K "_law_why")) := He.glo_ok X G (c.y.b.says.plain.fact 20 (f := .glo "_law_why") rfl)
theorem g_law : mg "law" = some (.ref (He.ga K "law")) := He.glo_ok X G (c.y.b.says.plain.fact 21 (f := .glo "law") rfl)
theorem g_PRIMES : mg "PRIMES" = some (.ref (He.ga K "PRIMES")) := He.glo_ok X G (c.y.b.says.plain.fact 22 (f := .glo "PRIMES") rfl)
theorem g_CallError : mg "CallError" = some (.ref (He.ga K "CallError")) := He.glo_ok X G (c.y.b.says.plain.fact 23 (f := .glo "CallError") rfl)
theorem g_Missing : mg "Missing" = some (.ref (He.ga K "Missing")) := He.glo_ok X G (c.y.b.says.plain.fact 24 (f := .glo "Missing") rfl)
theorem g_NothingLeft : mg "NothingLeft" = some (.ref (He.ga K "NothingLeft")) := He.glo_ok X G (c.y.b.says.plain.fact 25 (f := .glo "NothingLeft") rfl)
theorem g_InvalidLength : mg "InvalidLength" = some (.ref (He.ga K "InvalidLength")) := He.glo_ok X G (c.y.b.says.plain.fact 26 (f := .glo "InvalidLength") rfl)
theorem g_InvalidPrime : mg "InvalidPrime" = some (.ref (He.ga K "InvalidPrime")) := He.glo_ok X G (c.y.b.says.plain.fact 27 (f := .glo "InvalidPrime") rfl)
omit X G in
theorem e_InvalidLength : ErrOk K .ve "InvalidLength" "given" := errOk_of fun b hb => c.y.b.chkM (List.mem_append_left _ (List.mem_flatten.mpr ⟨errBs .ve "InvalidLength" "given", List.mem_of_getElem? (i := 0) rfl, hb⟩))
omit X G in
theorem e_InvalidPrime : ErrOk K .ve "InvalidPrime" "given" := errOk_of fun b hb => c.y.b.chkM (List.mem_append_left _ (List.mem_flatten.mpr ⟨errBs .ve "InvalidPrime" "given", List.mem_of_getElem? (i := 1) rfl, hb⟩))
theorem gs_of : GS K mg where
  f_all := He.free_ok X G (c.y.b.says.plain.fact 28 (f := .free "all") rfl)
  f_bool := He.free_ok X G (c.y.b.says.plain.fact 29 (f := .free "bool") rfl)
  f_enumerate := He.free_ok X G (c.y.b.says.plain.fact 30 (f := .free "enumerate") rfl)
  f_int := He.free_ok X G (c.y.b.says.plain.fact 31 (f := .free "int") rfl)
  f_isinstance := He.free_ok X G (c.y.b.says.plain.fact 32 (f := .free "isinstance") rfl)
  f_len := He.free_ok X G (c.y.b.says.plain.fact 33 (f := .free "len") rfl)
  f_list := He.free_ok X G (c.y.b.says.plain.fact 34 (f := .free "list") rfl)
  f_range := He.free_ok X G (c.y.b.says.plain.fact 35 (f := .free "range") rfl)
  f_sorted := He.free_ok X G (c.y.b.says.plain.fact 36 (f := .free "sorted") rfl)
  f_str := He.free_ok X G (c.y.b.says.plain.fact 37 (f := .free "str") rfl)
  f_super := He.free_ok X G (c.y.b.says.plain.fact 38 (f := .free "super") rfl)
  f_tuple := He.free_ok X G (c.y.b.says.plain.fact 39 (f := .free "tuple") rfl)
  f_zip := He.free_ok X G (c.y.b.says.plain.fact 40 (f := .free "zip") rfl)
  d__law_source := by
    obtain ⟨fd, F⟩ := c.y.b.says.plain.def_ 0 (d := dd__law_source) rfl
    exact ⟨_, fd, g__law_source X G c, F⟩
  d__law_draw := by
    obtain ⟨fd, F⟩ := c.y.b.says.plain.def_ 1 (d := dd__law_draw) rfl
    exact ⟨_, fd, g__law_draw X G c, F⟩
  d__law_of := by
    obtain ⟨fd, F⟩ := c.y.b.says.plain.def_ 2 (d := dd__law_of) rfl
    exact ⟨_, fd, g__law_of X G c, F⟩
  d__law_sizes := by
    obtain ⟨fd, F⟩ := c.y.b.says.plain.def_ 3 (d := dd__law_sizes) rfl
    exact ⟨_, fd, g__law_sizes X G c, F⟩
  d__law_sum := by
    obtain ⟨fd, F⟩ := c.y.b.says.plain.def_ 4 (d := dd__law_sum) rfl
    exact ⟨_, fd, g__law_sum X G c, F⟩
  d__law_span := by
    obtain ⟨fd, F⟩ := c.y.b.says.plain.def_ 5 (d := dd__law_span) rfl
    exact ⟨_, fd, g__law_span X G c, F⟩
  d__law_lead := by
    obtain ⟨fd, F⟩ := c.y.b.says.plain.def_ 6 (d := dd__law_lead) rfl
    exact ⟨_, fd, g__law_lead X G c, F⟩
  d__law_scaled_rows := by
    obtain ⟨fd, F⟩ := c.y.b.says.plain.def_ 7 (d := dd__law_scaled_rows) rfl
    exact ⟨_, fd, g__law_scaled_rows X G c, F⟩
  d__law_like := by
    obtain ⟨fd, F⟩ := c.y.b.says.plain.def_ 8 (d := dd__law_like) rfl
    exact ⟨_, fd, g__law_like X G c, F⟩
  d_is_integer := by
    obtain ⟨fd, F⟩ := c.y.b.says.plain.def_ 9 (d := dd_is_integer) rfl
    exact ⟨_, fd, g_is_integer X G c, F⟩
  d_is_within := by
    obtain ⟨fd, F⟩ := c.y.b.says.plain.def_ 10 (d := dd_is_within) rfl
    exact ⟨_, fd, g_is_within X G c, F⟩
  d_worths_count := by
    obtain ⟨fd, F⟩ := c.y.b.says.plain.def_ 11 (d := dd_worths_count) rfl
    exact ⟨_, fd, g_worths_count X G c, F⟩
  d_check_field := by
    obtain ⟨fd, F⟩ := c.y.b.says.plain.def_ 12 (d := dd_check_field) rfl
    exact ⟨_, fd, g_check_field X G c, F⟩
  d_rows_from := by
    obtain ⟨fd, F⟩ := c.y.b.says.plain.def_ 13 (d := dd_rows_from) rfl
    exact ⟨_, fd, g_rows_from X G c, F⟩
  d_leading_place := by
    obtain ⟨fd, F⟩ := c.y.b.says.plain.def_ 14 (d := dd_leading_place) rfl
    exact ⟨_, fd, g_leading_place X G c, F⟩
  d_multiplied := by
    obtain ⟨fd, F⟩ := c.y.b.says.plain.def_ 15 (d := dd_multiplied) rfl
    exact ⟨_, fd, g_multiplied X G c, F⟩
  d_inverse := by
    obtain ⟨fd, F⟩ := c.y.b.says.plain.def_ 16 (d := dd_inverse) rfl
    exact ⟨_, fd, g_inverse X G c, F⟩
  d_scaled := by
    obtain ⟨fd, F⟩ := c.y.b.says.plain.def_ 17 (d := dd_scaled) rfl
    exact ⟨_, fd, g_scaled X G c, F⟩
  d_scaled_rows := by
    obtain ⟨fd, F⟩ := c.y.b.says.plain.def_ 18 (d := dd_scaled_rows) rfl
    exact ⟨_, fd, g_scaled_rows X G c, F⟩
  d__law_field := by
    obtain ⟨fd, F⟩ := c.y.b.says.plain.def_ 19 (d := dd__law_field) rfl
    exact ⟨_, fd, g__law_field X G c, F⟩
  d__law_why := by
    obtain ⟨fd, F⟩ := c.y.b.says.plain.def_ 20 (d := dd__law_why) rfl
    exact ⟨_, fd, g__law_why X G c, F⟩
  c_MOST_WORTHS := He.int_ok X G (c.y.b.says.plain.fact 41 (f := .int "MOST_WORTHS" 64) rfl)
  c_PRIMES := gTup_of (g_PRIMES X G c) (c.y.b.chkM (b := fun K => He.tupB K "PRIMES" [.int 2, .int 3, .int 5, .int 7]) (List.mem_append_right _ (List.mem_of_getElem? (i := 2) rfl)))
  m_CallError := g_CallError X G c
  m_Missing := g_Missing X G c
  m_NothingLeft := g_NothingLeft X G c
  cat := by
    constructor
    intro x hx
    have e : fc "code" = (["InvalidLength", "InvalidPrime"] : List Str) := by rfl
    rw [e] at hx
    simp only [List.mem_cons, List.not_mem_nil, or_false] at hx
    rcases hx with rfl | rfl
    · exact ⟨_, g_InvalidLength X G c, catB_ok (c.y.b.chkM (List.mem_append_right _ (List.mem_of_getElem? (i := 0) rfl)))⟩
    · exact ⟨_, g_InvalidPrime X G c, catB_ok (c.y.b.chkM (List.mem_append_right _ (List.mem_of_getElem? (i := 1) rfl)))⟩

  ef := by
    constructor
    · constructor
      intro x hx
      have e : fc "code" = (["InvalidLength", "InvalidPrime"] : List Str) := by rfl
      rw [e] at hx
      simp only [List.mem_cons, List.not_mem_nil, or_false] at hx
      rcases hx with rfl | rfl
      · exact ⟨_, g_InvalidLength X G c, (e_InvalidLength c).xf, (e_InvalidLength c).no1⟩
      · exact ⟨_, g_InvalidPrime X G c, (e_InvalidPrime c).xf, (e_InvalidPrime c).no1⟩

    · constructor
      intro x hx
      have e : fc "given" = (["InvalidLength", "InvalidPrime"] : List Str) := by rfl
      rw [e] at hx
      simp only [List.mem_cons, List.not_mem_nil, or_false] at hx
      rcases hx with rfl | rfl
      · exact ⟨_, g_InvalidLength X G c, (e_InvalidLength c).xf, (e_InvalidLength c).no2⟩
      · exact ⟨_, g_InvalidPrime X G c, (e_InvalidPrime c).xf, (e_InvalidPrime c).no2⟩

    · constructor
      intro x hx
      have e : fc "at" = ([] : List Str) := by rfl
      rw [e] at hx
      simp only [List.mem_cons, List.not_mem_nil, or_false] at hx

    · constructor
      intro x hx
      have e : fc "name" = ([] : List Str) := by rfl
      rw [e] at hx
      simp only [List.mem_cons, List.not_mem_nil, or_false] at hx

    · constructor
      intro x hx
      have e : fc "most" = ([] : List Str) := by rfl
      rw [e] at hx
      simp only [List.mem_cons, List.not_mem_nil, or_false] at hx

    · constructor
      intro x hx
      have e : fc "cost" = ([] : List Str) := by rfl
      rw [e] at hx
      simp only [List.mem_cons, List.not_mem_nil, or_false] at hx

    · constructor
      intro x hx
      have e : fc "line" = ([] : List Str) := by rfl
      rw [e] at hx
      simp only [List.mem_cons, List.not_mem_nil, or_false] at hx


  nst := stopB_ok (c.y.b.chkM (b := stopB ["InvalidLength", "InvalidPrime"]) (List.mem_append_right _ (List.mem_of_getElem? (i := 3) rfl))) (by
    intro x hx
    have e : (["InvalidLength", "InvalidPrime"] : List Str) = (["InvalidLength", "InvalidPrime"] : List Str) := by rfl
    rw [e] at hx
    simp only [List.mem_cons, List.not_mem_nil, or_false] at hx
    rcases hx with rfl | rfl
    · exact g_InvalidLength X G c
    · exact g_InvalidPrime X G c
    )
omit X G c in
theorem sc_InvalidLength : SupScope ["self", "given"] ["self", "given"] (defScope i_InvalidLength) := ⟨rfl, rfl, rfl, by decide, rfl, by decide +kernel, by decide +kernel, by decide +kernel, by decide +kernel, by decide +kernel⟩
omit X G c in
theorem sc_InvalidPrime : SupScope ["self", "given"] ["self", "given"] (defScope i_InvalidPrime) := ⟨rfl, rfl, rfl, by decide, rfl, by decide +kernel, by decide +kernel, by decide +kernel, by decide +kernel, by decide +kernel⟩
theorem errs_of {w : World} {base : Heap} : Errs P0 w K mg base where
  mk_InvalidLength := by
    have hs := (gs_of X G c).f_super
    have E := e_InvalidLength c
    obtain ⟨fd, F⟩ := SaysC.cl (P := P0) (show SaysC P0.main.file hfa hfn hfc K from c.y.b.says) 0 (d := cd_InvalidLength) rfl
    exact mkErr_of (g_InvalidLength X G c) E.sup E.no1 E.no2 E.ini.1 E.ini.2 F sc_InvalidLength rfl rfl hs (by decide +kernel) (fun _ => rfl) (fun _ => rfl) (fun _ => rfl) (by decide) (by decide) (F.binds fun _ _ _ _ _ _ _ us hl => match us, hl with | [_, _], _ => rfl)
  mk_InvalidPrime := by
    have hs := (gs_of X G c).f_super
    have E := e_InvalidPrime c
    obtain ⟨fd, F⟩ := SaysC.cl (P := P0) (show SaysC P0.main.file hfa hfn hfc K from c.y.b.says) 1 (d := cd_InvalidPrime) rfl
    exact mkErr_of (g_InvalidPrime X G c) E.sup E.no1 E.no2 E.ini.1 E.ini.2 F sc_InvalidPrime rfl rfl hs (by decide +kernel) (fun _ => rfl) (fun _ => rfl) (fun _ => rfl) (by decide) (by decide) (F.binds fun _ _ _ _ _ _ _ us hl => match us, hl with | [_, _], _ => rfl)
theorem facts {w : World} {f : Addr} (hfa0 : mg ("law" : Str) = some (.ref f)) :
    ∃ fd : FuncData, (∀ (s : Shared) (v : Value), BindsTo s fd ⟨[v], []⟩ [("_law_script", v)]) ∧ ∀ base : Heap, K.In base → base.Ns mainGlobals mg → LamX.TabB base mg (He.cT K ("law", none)).1 (He.cT K ("law", none)).2 → FnOk P0 w K mg base CX0 13 f fd ["_law_script"] (fun vs H Q _ => spL ⟨K, mg⟩ 1 m_law vs H Q fun _ _ _ => False) := by
  obtain ⟨fd, F⟩ := c.y.b.says.plain.def_ 21 (d := dd_law) rfl
  have e := hfa0.symm.trans (g_law X G c)
  cases e
  have b := FunD.bindsA (ps := ["_law_script"]) F fun _ _ _ _ _ _ us hl => match us, hl with | [_], _ => rfl
  exact ⟨fd, fun s v => b s [v] rfl, fun base _ _ TB => ok_calm (ok_all (gs_of X G c) (errs_of X G c) TB F)⟩
end
end Lw_k04
open PySem PySem.W PySem.Calls PyProof.Rows
theorem Lw_k04.holds (hpure : Lw_k04.Pure) : PySem.Challenge.rw_mendcalls_k04_scaled_rows_in_order.Holds := by
  w_on; o_law
  refine HandSHeadRun.head_any (r := OpenLaw.row PySem.Challenge.rw_mendcalls_k04_scaled_rows_in_order) (q := view (OpenLaw.row PySem.Challenge.rw_mendcalls_k04_scaled_rows_in_order).prog [31]) (H := Lw_k04.hk) (ob := Lw_k04.ob) (M := 9000) (loose := Lw_k04.hnm) (d := HandSHeadRun.topDef (OpenLaw.row PySem.Challenge.rw_mendcalls_k04_scaled_rows_in_order).prog 31) (kwd := []) Lw_k04.ob_eq
    (by kernel_rfl) (fun s => by kernel_rfl) Lw_k04.run (by kernel_rfl) (by kernel_rfl) (by kernel_rfl) (by rfl) (by first | assumption | decide +kernel) (by decide +kernel) ⟨rfl, rfl, rfl, rfl, rfl, by decide +kernel⟩ ?hw ?hc
  case hw => w_witness2
  case hc =>
    refine LamX.walk_ofTsE (l := PySem.Challenge.rw_mendcalls_k04_scaled_rows_in_order) (n := 63) (k := 13) (x := "_law_script") (CX := fun _ => L2.CX0) rfl (by decide) (by kernel_rfl) ⟨rfl, by decide, by decide⟩ ?F (fun _ _ _ _ _ z => z)
    intro w mg fa h Y G hmg0
    obtain ⟨K, KX, c⟩ := Y
    have hmg : mg ("law" : PySem.Str) = some (.ref fa) := by
      have e : (HandSHeadRun.topDef (OpenLaw.row PySem.Challenge.rw_mendcalls_k04_scaled_rows_in_order).prog 31).name = ("law" : PySem.Str) := by kernel_rfl
      rw [← e]
      exact hmg0
    obtain ⟨fd, hb, hF⟩ := Lw_k04.facts (w := w) KX G c hmg
    have each : ∀ p ∈ Lw_k04.htf.map (He.cT K), ∃ z ∈ Lw_k04.htf, p = He.cT K z := fun p hp => (let ⟨z, hz, e⟩ := List.mem_map.mp hp; ⟨z, hz, e.symm⟩)
    refine ⟨K, KX, fd, Lw_k04.htf.map (He.cT K), _, fun p hp => ?_, fun p hp => ?_, fun p hp => ?_, hb, fun H a ns hl _ hT hS => ?_, fun base h1 h2 TT => hF base h1 h2 (TT (He.cT K ("law", none)) (List.mem_map.mpr ⟨("law", none), by simp [Lw_k04.htf], rfl⟩))⟩
    · obtain ⟨z, hz, rfl⟩ := each p hp
      exact c.y.empty z hz
    · obtain ⟨z, hz, rfl⟩ := each p hp
      exact c.y.out z hz
    · obtain ⟨z, hz, rfl⟩ := each p hp
      exact PySem.W.codeHd_of_K KX (c.y.hd z hz)
    · have hm := hpure ns hl
      refine Dv.sp_startL (qs := Lw_k04.qs) (ρ := Lw_k04.qs.map fun z => (He.cT K z.1).2) hm hl rfl (by simp) (fun p hp => ?_) hS
      obtain ⟨z, hz, rfl⟩ := List.mem_map.mp hp
      have hz2 : z.1 ∈ Lw_k04.htf := by
        have : Lw_k04.htf = Lw_k04.qs.map (·.1) := rfl
        rw [this]
        exact List.mem_map.mpr ⟨z, hz, rfl⟩
      exact hT (He.cT K z.1) (List.mem_map.mpr ⟨z.1, hz2, rfl⟩)


namespace Lw_k04
open PySem PySem.Spec PyProof.Rows L2 Dv Gw
abbrev tb0 : MObj := .tab ("law", none) "law.<locals>.<lambda>"
abbrev stT (s : Src) : Mu := [tb0, .src s]
theorem drw1 : Drw 1 stT := ⟨fun _ _ => rfl, fun _ => Nat.one_lt_two⟩
/-- what is told of a size -/
def partA (e : DSt) : DSt := (dSeq (dAsg (dLcG zz (dGen 2 (Pk.m_scaled_rows zz) (dCons (dVar 3) (dCons (dVar 4) dNil))) [13] (tName 13) dYes (dVar 13)) (tName 5))
  (dSeq (dAsg (dLcG zz (dGenK 2 0 2 [1, 0] (Pk.m_scaled_rows zz) dNil (dCons (dVar 4) (dCons (dVar 3) dNil))) [13] (tName 13) dYes (dVar 13)) (tName 6))
  (dSeq (dAsg (dCall (fCall 2 m__law_scaled_rows) (dCons (dVar 3) (dCons (dVar 4) dNil))) (tName 7))
  (dSeq (dAsg (dC (.int 1)) (tName 8))
  (dSeq (dFor (dArg fRange1 (dCons (dVar 4) dNil)) (tName 9) (dAsg (dBin fMul (dVar 8) (dVar 3)) (tName 8)))
  (dSeq (dIfS (dOrT (dNotT (dTest (dCall (fCall 2 (mLike 12)) (dCons (dVar 5) (dCons (dVar 7) dNil))))) (dOrT (dTest (dBin fNe (dVar 6) (dVar 7))) (dTest (dBin fNe (dBin fMul (dCall fLen (dCons (dVar 7) dNil)) (dBin fSub (dVar 3) (dC (.int 1)))) (dBin fSub (dVar 8) (dC (.int 1))))))) (dRet (dC (.bl false))) dSkip) e))))))
def R_2_1 : List D := [.tup [.int 1]]
theorem a_2_1 (s : Src) (x0 x2 x5 x6 x7 x8 x9 x10 x11 x12 : SV) (e : DSt) : partA e [x0, .v (.obj 1), x2, .v (.int 2), .v (.int 1), x5, x6, x7, x8, x9, x10, x11, x12, .no, .no] (stT s) = e [x0, .v (.obj 1), x2, .v (.int 2), .v (.int 1), .v (.lst R_2_1), .v (.lst R_2_1), .v (.lst R_2_1), .v (.int 2), .v (.int 0), x10, x11, x12, .no, .no] (stT s) := by kernel_rfl
def R_2_2 : List D := [.tup [.int 0, .int 1], .tup [.int 1, .int 0], .tup [.int 1, .int 1]]
theorem a_2_2 (s : Src) (x0 x2 x5 x6 x7 x8 x9 x10 x11 x12 : SV) (e : DSt) : partA e [x0, .v (.obj 1), x2, .v (.int 2), .v (.int 2), x5, x6, x7, x8, x9, x10, x11, x12, .no, .no] (stT s) = e [x0, .v (.obj 1), x2, .v (.int 2), .v (.int 2), .v (.lst R_2_2), .v (.lst R_2_2), .v (.lst R_2_2), .v (.int 4), .v (.int 1), x10, x11, x12, .no, .no] (stT s) := by kernel_rfl
def R_2_3 : List D := [.tup [.int 0, .int 0, .int 1], .tup [.int 0, .int 1, .int 0], .tup [.int 0, .int 1, .int 1], .tup [.int 1, .int 0, .int 0], .tup [.int 1, .int 0, .int 1], .tup [.int 1, .int 1, .int 0], .tup [.int 1, .int 1, .int 1]]
theorem a_2_3 (s : Src) (x0 x2 x5 x6 x7 x8 x9 x10 x11 x12 : SV) (e : DSt) : partA e [x0, .v (.obj 1), x2, .v (.int 2), .v (.int 3), x5, x6, x7, x8, x9, x10, x11, x12, .no, .no] (stT s) = e [x0, .v (.obj 1), x2, .v (.int 2), .v (.int 3), .v (.lst R_2_3), .v (.lst R_2_3), .v (.lst R_2_3), .v (.int 8), .v (.int 2), x10, x11, x12, .no, .no] (stT s) := by kernel_rfl
def R_2_4 : List D := [.tup [.int 0, .int 0, .int 0, .int 1], .tup [.int 0, .int 0, .int 1, .int 0], .tup [.int 0, .int 0, .int 1, .int 1], .tup [.int 0, .int 1, .int 0, .int 0], .tup [.int 0, .int 1, .int 0, .int 1], .tup [.int 0, .int 1, .int 1, .int 0], .tup [.int 0, .int 1, .int 1, .int 1], .tup [.int 1, .int 0, .int 0, .int 0], .tup [.int 1, .int 0, .int 0, .int 1], .tup [.int 1, .int 0, .int 1, .int 0], .tup [.int 1, .int 0, .int 1, .int 1], .tup [.int 1, .int 1, .int 0, .int 0], .tup [.int 1, .int 1, .int 0, .int 1], .tup [.int 1, .int 1, .int 1, .int 0], .tup [.int 1, .int 1, .int 1, .int 1]]
theorem a_2_4 (s : Src) (x0 x2 x5 x6 x7 x8 x9 x10 x11 x12 : SV) (e : DSt) : partA e [x0, .v (.obj 1), x2, .v (.int 2), .v (.int 4), x5, x6, x7, x8, x9, x10, x11, x12, .no, .no] (stT s) = e [x0, .v (.obj 1), x2, .v (.int 2), .v (.int 4), .v (.lst R_2_4), .v (.lst R_2_4), .v (.lst R_2_4), .v (.int 16), .v (.int 3), x10, x11, x12, .no, .no] (stT s) := by kernel_rfl
def R_2_5 : List D := [.tup [.int 0, .int 0, .int 0, .int 0, .int 1], .tup [.int 0, .int 0, .int 0, .int 1, .int 0], .tup [.int 0, .int 0, .int 0, .int 1, .int 1], .tup [.int 0, .int 0, .int 1, .int 0, .int 0], .tup [.int 0, .int 0, .int 1, .int 0, .int 1], .tup [.int 0, .int 0, .int 1, .int 1, .int 0], .tup [.int 0, .int 0, .int 1, .int 1, .int 1], .tup [.int 0, .int 1, .int 0, .int 0, .int 0], .tup [.int 0, .int 1, .int 0, .int 0, .int 1], .tup [.int 0, .int 1, .int 0, .int 1, .int 0], .tup [.int 0, .int 1, .int 0, .int 1, .int 1], .tup [.int 0, .int 1, .int 1, .int 0, .int 0], .tup [.int 0, .int 1, .int 1, .int 0, .int 1], .tup [.int 0, .int 1, .int 1, .int 1, .int 0], .tup [.int 0, .int 1, .int 1, .int 1, .int 1], .tup [.int 1, .int 0, .int 0, .int 0, .int 0], .tup [.int 1, .int 0, .int 0, .int 0, .int 1], .tup [.int 1, .int 0, .int 0, .int 1, .int 0], .tup [.int 1, .int 0, .int 0, .int 1, .int 1], .tup [.int 1, .int 0, .int 1, .int 0, .int 0], .tup [.int 1, .int 0, .int 1, .int 0, .int 1], .tup [.int 1, .int 0, .int 1, .int 1, .int 0], .tup [.int 1, .int 0, .int 1, .int 1, .int 1], .tup [.int 1, .int 1, .int 0, .int 0, .int 0], .tup [.int 1, .int 1, .int 0, .int 0, .int 1], .tup [.int 1, .int 1, .int 0, .int 1, .int 0], .tup [.int 1, .int 1, .int 0, .int 1, .int 1], .tup [.int 1, .int 1, .int 1, .int 0, .int 0], .tup [.int 1, .int 1, .int 1, .int 0, .int 1], .tup [.int 1, .int 1, .int 1, .int 1, .int 0], .tup [.int 1, .int 1, .int 1, .int 1, .int 1]]
theorem a_2_5 (s : Src) (x0 x2 x5 x6 x7 x8 x9 x10 x11 x12 : SV) (e : DSt) : partA e [x0, .v (.obj 1), x2, .v (.int 2), .v (.int 5), x5, x6, x7, x8, x9, x10, x11, x12, .no, .no] (stT s) = e [x0, .v (.obj 1), x2, .v (.int 2), .v (.int 5), .v (.lst R_2_5), .v (.lst R_2_5), .v (.lst R_2_5), .v (.int 32), .v (.int 4), x10, x11, x12, .no, .no] (stT s) := by kernel_rfl
def R_2_6 : List D := [.tup [.int 0, .int 0, .int 0, .int 0, .int 0, .int 1], .tup [.int 0, .int 0, .int 0, .int 0, .int 1, .int 0], .tup [.int 0, .int 0, .int 0, .int 0, .int 1, .int 1], .tup [.int 0, .int 0, .int 0, .int 1, .int 0, .int 0], .tup [.int 0, .int 0, .int 0, .int 1, .int 0, .int 1], .tup [.int 0, .int 0, .int 0, .int 1, .int 1, .int 0], .tup [.int 0, .int 0, .int 0, .int 1, .int 1, .int 1], .tup [.int 0, .int 0, .int 1, .int 0, .int 0, .int 0], .tup [.int 0, .int 0, .int 1, .int 0, .int 0, .int 1], .tup [.int 0, .int 0, .int 1, .int 0, .int 1, .int 0], .tup [.int 0, .int 0, .int 1, .int 0, .int 1, .int 1], .tup [.int 0, .int 0, .int 1, .int 1, .int 0, .int 0], .tup [.int 0, .int 0, .int 1, .int 1, .int 0, .int 1], .tup [.int 0, .int 0, .int 1, .int 1, .int 1, .int 0], .tup [.int 0, .int 0, .int 1, .int 1, .int 1, .int 1], .tup [.int 0, .int 1, .int 0, .int 0, .int 0, .int 0], .tup [.int 0, .int 1, .int 0, .int 0, .int 0, .int 1], .tup [.int 0, .int 1, .int 0, .int 0, .int 1, .int 0], .tup [.int 0, .int 1, .int 0, .int 0, .int 1, .int 1], .tup [.int 0, .int 1, .int 0, .int 1, .int 0, .int 0], .tup [.int 0, .int 1, .int 0, .int 1, .int 0, .int 1], .tup [.int 0, .int 1, .int 0, .int 1, .int 1, .int 0], .tup [.int 0, .int 1, .int 0, .int 1, .int 1, .int 1], .tup [.int 0, .int 1, .int 1, .int 0, .int 0, .int 0], .tup [.int 0, .int 1, .int 1, .int 0, .int 0, .int 1], .tup [.int 0, .int 1, .int 1, .int 0, .int 1, .int 0], .tup [.int 0, .int 1, .int 1, .int 0, .int 1, .int 1], .tup [.int 0, .int 1, .int 1, .int 1, .int 0, .int 0], .tup [.int 0, .int 1, .int 1, .int 1, .int 0, .int 1], .tup [.int 0, .int 1, .int 1, .int 1, .int 1, .int 0], .tup [.int 0, .int 1, .int 1, .int 1, .int 1, .int 1], .tup [.int 1, .int 0, .int 0, .int 0, .int 0, .int 0], .tup [.int 1, .int 0, .int 0, .int 0, .int 0, .int 1], .tup [.int 1, .int 0, .int 0, .int 0, .int 1, .int 0], .tup [.int 1, .int 0, .int 0, .int 0, .int 1, .int 1], .tup [.int 1, .int 0, .int 0, .int 1, .int 0, .int 0], .tup [.int 1, .int 0, .int 0, .int 1, .int 0, .int 1], .tup [.int 1, .int 0, .int 0, .int 1, .int 1, .int 0], .tup [.int 1, .int 0, .int 0, .int 1, .int 1, .int 1], .tup [.int 1, .int 0, .int 1, .int 0, .int 0, .int 0], .tup [.int 1, .int 0, .int 1, .int 0, .int 0, .int 1], .tup [.int 1, .int 0, .int 1, .int 0, .int 1, .int 0], .tup [.int 1, .int 0, .int 1, .int 0, .int 1, .int 1], .tup [.int 1, .int 0, .int 1, .int 1, .int 0, .int 0], .tup [.int 1, .int 0, .int 1, .int 1, .int 0, .int 1], .tup [.int 1, .int 0, .int 1, .int 1, .int 1, .int 0], .tup [.int 1, .int 0, .int 1, .int 1, .int 1, .int 1], .tup [.int 1, .int 1, .int 0, .int 0, .int 0, .int 0], .tup [.int 1, .int 1, .int 0, .int 0, .int 0, .int 1], .tup [.int 1, .int 1, .int 0, .int 0, .int 1, .int 0], .tup [.int 1, .int 1, .int 0, .int 0, .int 1, .int 1], .tup [.int 1, .int 1, .int 0, .int 1, .int 0, .int 0], .tup [.int 1, .int 1, .int 0, .int 1, .int 0, .int 1], .tup [.int 1, .int 1, .int 0, .int 1, .int 1, .int 0], .tup [.int 1, .int 1, .int 0, .int 1, .int 1, .int 1], .tup [.int 1, .int 1, .int 1, .int 0, .int 0, .int 0], .tup [.int 1, .int 1, .int 1, .int 0, .int 0, .int 1], .tup [.int 1, .int 1, .int 1, .int 0, .int 1, .int 0], .tup [.int 1, .int 1, .int 1, .int 0, .int 1, .int 1], .tup [.int 1, .int 1, .int 1, .int 1, .int 0, .int 0], .tup [.int 1, .int 1, .int 1, .int 1, .int 0, .int 1], .tup [.int 1, .int 1, .int 1, .int 1, .int 1, .int 0], .tup [.int 1, .int 1, .int 1, .int 1, .int 1, .int 1]]
theorem a_2_6 (s : Src) (x0 x2 x5 x6 x7 x8 x9 x10 x11 x12 : SV) (e : DSt) : partA e [x0, .v (.obj 1), x2, .v (.int 2), .v (.int 6), x5, x6, x7, x8, x9, x10, x11, x12, .no, .no] (stT s) = e [x0, .v (.obj 1), x2, .v (.int 2), .v (.int 6), .v (.lst R_2_6), .v (.lst R_2_6), .v (.lst R_2_6), .v (.int 64), .v (.int 5), x10, x11, x12, .no, .no] (stT s) := by kernel_rfl
def R_3_1 : List D := [.tup [.int 1]]
theorem a_3_1 (s : Src) (x0 x2 x5 x6 x7 x8 x9 x10 x11 x12 : SV) (e : DSt) : partA e [x0, .v (.obj 1), x2, .v (.int 3), .v (.int 1), x5, x6, x7, x8, x9, x10, x11, x12, .no, .no] (stT s) = e [x0, .v (.obj 1), x2, .v (.int 3), .v (.int 1), .v (.lst R_3_1), .v (.lst R_3_1), .v (.lst R_3_1), .v (.int 3), .v (.int 0), x10, x11, x12, .no, .no] (stT s) := by kernel_rfl
def R_3_2 : List D := [.tup [.int 0, .int 1], .tup [.int 1, .int 0], .tup [.int 1, .int 1], .tup [.int 1, .int 2]]
theorem a_3_2 (s : Src) (x0 x2 x5 x6 x7 x8 x9 x10 x11 x12 : SV) (e : DSt) : partA e [x0, .v (.obj 1), x2, .v (.int 3), .v (.int 2), x5, x6, x7, x8, x9, x10, x11, x12, .no, .no] (stT s) = e [x0, .v (.obj 1), x2, .v (.int 3), .v (.int 2), .v (.lst R_3_2), .v (.lst R_3_2), .v (.lst R_3_2), .v (.int 9), .v (.int 1), x10, x11, x12, .no, .no] (stT s) := by kernel_rfl
def R_3_3 : List D := [.tup [.int 0, .int 0, .int 1], .tup [.int 0, .int 1, .int 0], .tup [.int 0, .int 1, .int 1], .tup [.int 0, .int 1, .int 2], .tup [.int 1, .int 0, .int 0], .tup [.int 1, .int 0, .int 1], .tup [.int 1, .int 0, .int 2], .tup [.int 1, .int 1, .int 0], .tup [.int 1, .int 1, .int 1], .tup [.int 1, .int 1, .int 2], .tup [.int 1, .int 2, .int 0], .tup [.int 1, .int 2, .int 1], .tup [.int 1, .int 2, .int 2]]
theorem a_3_3 (s : Src) (x0 x2 x5 x6 x7 x8 x9 x10 x11 x12 : SV) (e : DSt) : partA e [x0, .v (.obj 1), x2, .v (.int 3), .v (.int 3), x5, x6, x7, x8, x9, x10, x11, x12, .no, .no] (stT s) = e [x0, .v (.obj 1), x2, .v (.int 3), .v (.int 3), .v (.lst R_3_3), .v (.lst R_3_3), .v (.lst R_3_3), .v (.int 27), .v (.int 2), x10, x11, x12, .no, .no] (stT s) := by kernel_rfl
def R_5_1 : List D := [.tup [.int 1]]
theorem a_5_1 (s : Src) (x0 x2 x5 x6 x7 x8 x9 x10 x11 x12 : SV) (e : DSt) : partA e [x0, .v (.obj 1), x2, .v (.int 5), .v (.int 1), x5, x6, x7, x8, x9, x10, x11, x12, .no, .no] (stT s) = e [x0, .v (.obj 1), x2, .v (.int 5), .v (.int 1), .v (.lst R_5_1), .v (.lst R_5_1), .v (.lst R_5_1), .v (.int 5), .v (.int 0), x10, x11, x12, .no, .no] (stT s) := by kernel_rfl
def R_5_2 : List D := [.tup [.int 0, .int 1], .tup [.int 1, .int 0], .tup [.int 1, .int 1], .tup [.int 1, .int 2], .tup [.int 1, .int 3], .tup [.int 1, .int 4]]
theorem a_5_2 (s : Src) (x0 x2 x5 x6 x7 x8 x9 x10 x11 x12 : SV) (e : DSt) : partA e [x0, .v (.obj 1), x2, .v (.int 5), .v (.int 2), x5, x6, x7, x8, x9, x10, x11, x12, .no, .no] (stT s) = e [x0, .v (.obj 1), x2, .v (.int 5), .v (.int 2), .v (.lst R_5_2), .v (.lst R_5_2), .v (.lst R_5_2), .v (.int 25), .v (.int 1), x10, x11, x12, .no, .no] (stT s) := by kernel_rfl
def R_7_1 : List D := [.tup [.int 1]]
theorem a_7_1 (s : Src) (x0 x2 x5 x6 x7 x8 x9 x10 x11 x12 : SV) (e : DSt) : partA e [x0, .v (.obj 1), x2, .v (.int 7), .v (.int 1), x5, x6, x7, x8, x9, x10, x11, x12, .no, .no] (stT s) = e [x0, .v (.obj 1), x2, .v (.int 7), .v (.int 1), .v (.lst R_7_1), .v (.lst R_7_1), .v (.lst R_7_1), .v (.int 7), .v (.int 0), x10, x11, x12, .no, .no] (stT s) := by kernel_rfl
def R_7_2 : List D := [.tup [.int 0, .int 1], .tup [.int 1, .int 0], .tup [.int 1, .int 1], .tup [.int 1, .int 2], .tup [.int 1, .int 3], .tup [.int 1, .int 4], .tup [.int 1, .int 5], .tup [.int 1, .int 6]]
theorem a_7_2 (s : Src) (x0 x2 x5 x6 x7 x8 x9 x10 x11 x12 : SV) (e : DSt) : partA e [x0, .v (.obj 1), x2, .v (.int 7), .v (.int 2), x5, x6, x7, x8, x9, x10, x11, x12, .no, .no] (stT s) = e [x0, .v (.obj 1), x2, .v (.int 7), .v (.int 2), .v (.lst R_7_2), .v (.lst R_7_2), .v (.lst R_7_2), .v (.int 49), .v (.int 1), x10, x11, x12, .no, .no] (stT s) := by kernel_rfl
theorem aAll {p : Int} {n : Nat} (h : (p, n) ∈ fldL) (s : Src) (x0 x2 x5 x6 x7 x8 x9 x10 x11 x12 : SV) : ∃ y5 y6 y7 y8 y9, ∀ e, partA e [x0, .v (.obj 1), x2, .v (.int p), .v (.int n), x5, x6, x7, x8, x9, x10, x11, x12, .no, .no] (stT s) = e [x0, .v (.obj 1), x2, .v (.int p), .v (.int n), y5, y6, y7, y8, y9, x10, x11, x12, .no, .no] (stT s) := by
  unfold fldL at h
  simp only [List.mem_cons, List.not_mem_nil, or_false, Prod.mk.injEq] at h
  rcases h with ⟨rfl, rfl⟩ | ⟨rfl, rfl⟩ | ⟨rfl, rfl⟩ | ⟨rfl, rfl⟩ | ⟨rfl, rfl⟩ | ⟨rfl, rfl⟩ | ⟨rfl, rfl⟩ | ⟨rfl, rfl⟩ | ⟨rfl, rfl⟩ | ⟨rfl, rfl⟩ | ⟨rfl, rfl⟩ | ⟨rfl, rfl⟩ | ⟨rfl, rfl⟩
  · exact ⟨_, _, _, _, _, a_2_1 s x0 x2 x5 x6 x7 x8 x9 x10 x11 x12⟩
  · exact ⟨_, _, _, _, _, a_2_2 s x0 x2 x5 x6 x7 x8 x9 x10 x11 x12⟩
  · exact ⟨_, _, _, _, _, a_2_3 s x0 x2 x5 x6 x7 x8 x9 x10 x11 x12⟩
  · exact ⟨_, _, _, _, _, a_2_4 s x0 x2 x5 x6 x7 x8 x9 x10 x11 x12⟩
  · exact ⟨_, _, _, _, _, a_2_5 s x0 x2 x5 x6 x7 x8 x9 x10 x11 x12⟩
  · exact ⟨_, _, _, _, _, a_2_6 s x0 x2 x5 x6 x7 x8 x9 x10 x11 x12⟩
  · exact ⟨_, _, _, _, _, a_3_1 s x0 x2 x5 x6 x7 x8 x9 x10 x11 x12⟩
  · exact ⟨_, _, _, _, _, a_3_2 s x0 x2 x5 x6 x7 x8 x9 x10 x11 x12⟩
  · exact ⟨_, _, _, _, _, a_3_3 s x0 x2 x5 x6 x7 x8 x9 x10 x11 x12⟩
  · exact ⟨_, _, _, _, _, a_5_1 s x0 x2 x5 x6 x7 x8 x9 x10 x11 x12⟩
  · exact ⟨_, _, _, _, _, a_5_2 s x0 x2 x5 x6 x7 x8 x9 x10 x11 x12⟩
  · exact ⟨_, _, _, _, _, a_7_1 s x0 x2 x5 x6 x7 x8 x9 x10 x11 x12⟩
  · exact ⟨_, _, _, _, _, a_7_2 s x0 x2 x5 x6 x7 x8 x9 x10 x11 x12⟩
def O4 : List D := [.int 4, .non, .bl true, .str "2"]
def B5 : List D := [.int 0, .int 7, .non, .bl true, .int (-1)]
theorem o4 {d : D} (h : d ∈ O4) : nobor d = true ∧ unbor d = d ∧ hold d = d ∧ noClo d = true ∧ lkD 9 d = true := by
  unfold O4 at h
  simp only [List.mem_cons, List.not_mem_nil, or_false] at h
  rcases h with rfl | rfl | rfl | rfl <;> exact ⟨rfl, rfl, rfl, by kernel_rfl, by kernel_rfl⟩
theorem b5 {d : D} (h : d ∈ B5) : nobor d = true ∧ unbor d = d ∧ hold d = d ∧ noClo d = true ∧ lkD 9 d = true := by
  unfold B5 at h
  simp only [List.mem_cons, List.not_mem_nil, or_false] at h
  rcases h with rfl | rfl | rfl | rfl | rfl <;> exact ⟨rfl, rfl, rfl, by kernel_rfl, by kernel_rfl⟩
theorem w0 {d b : D} (h : d ∈ O4) (hb : b ∈ B5) (s : Src) : mWhy fc (lm_0 [d, b]) (stT s) = some (.val (.tup [.str "InvalidPrime", d]), stT s) := by
  unfold O4 at h
  unfold B5 at hb
  simp only [List.mem_cons, List.not_mem_nil, or_false] at h hb
  rcases h with rfl | rfl | rfl | rfl <;> rcases hb with rfl | rfl | rfl | rfl | rfl <;> kernel_rfl
theorem w1 {b : D} (hb : b ∈ B5) (s : Src) : mWhy fc (lm_1 [b]) (stT s) = some (.val (.tup [.str "InvalidLength", b]), stT s) := by
  unfold B5 at hb
  simp only [List.mem_cons, List.not_mem_nil, or_false] at hb
  rcases hb with rfl | rfl | rfl | rfl | rfl <;> kernel_rfl
abbrev lamsD (cells : List (Str × Addr)) : List D := [.lam (cloFrom cells lam_0.scope.names []) lam_0, .lam (cloFrom cells lam_1.scope.names []) lam_1]
abbrev dueD (od bd : D) : List D := [.tup [.str "InvalidPrime", od], .tup [.str "InvalidLength", bd]]
section
variable (s : Src) (x0 x2 x3 x4 x5 x6 x7 x8 x9 x12 : SV) (cells : List (Str × Addr))
theorem c_asks (od bd : D) : (dAsg (dLst (dCons (dLamV 0 ("law", none) (cloFrom cells lam_0.scope.names []) lam_0) (dCons (dLamV 0 ("law", none) (cloFrom cells lam_1.scope.names []) lam_1) dNil))) (tName 12)) [x0, .v (.obj 1), x2, x3, x4, x5, x6, x7, x8, x9, .v od, .v bd, x12, .no, .no] (stT s) = some (.val .nx, [x0, .v (.obj 1), x2, x3, x4, x5, x6, x7, x8, x9, .v od, .v bd, .v (.lst (lamsD cells)), .no, .no], stT s) := by kernel_rfl
theorem clo_at {N : List Str} {sc : Scope} {cells : List (Str × Addr)} {env : DEnv} {L : LamI} {ds : List D} (h : capsC N sc L = true) (hc : capD env (jsOf N L.fr) = some ds) : cloD N sc cells env (.lam (cloFrom cells L.scope.names []) L) = some (.clo L ds) := by
  unfold cloD
  simp only [h, and_self, if_true, hc]
theorem clos_cons {N : List Str} {sc : Scope} {cells : List (Str × Addr)} {env : DEnv} {d c : D} {l cs : List D} (h : cloD N sc cells env d = some c) (r : closD N sc cells env l = some cs) : closD N sc cells env (d :: l) = some (c :: cs) := by
  unfold closD
  rw [h, r]
theorem whys_ok {od bd : D} (ho : od ∈ O4) (hb : bd ∈ B5) : (dIfS (dNotT (dTest (dCall (fCall 2 (mLike 12)) (dCons (dLcZ N_law (defScope s_law) cells (dIter (dVar 12)) [14] (tName 14) (dCall (fCall 1 m__law_why) (dCons (dVar 14) dNil))) (dCons (dLst (dCons (dTup (dCons (dC (.str "InvalidPrime")) (dCons (dVar 10) dNil))) (dCons (dTup (dCons (dC (.str "InvalidLength")) (dCons (dVar 11) dNil))) dNil))) dNil))))) (dRet (dC (.bl false))) dSkip) [x0, .v (.obj 1), x2, x3, x4, x5, x6, x7, x8, x9, .v od, .v bd, .v (.lst (lamsD cells)), .no, .no] (stT s) = some (.val .nx, [x0, .v (.obj 1), x2, x3, x4, x5, x6, x7, x8, x9, .v od, .v bd, .v (.lst (lamsD cells)), .no, .no], stT s) := by
  obtain ⟨a1, a2, a3, a4, a5⟩ := o4 ho
  obtain ⟨t1, t2, t3, t4, t5⟩ := b5 hb
  have cl : closD N_law (defScope s_law) cells [x0, .v (.obj 1), x2, x3, x4, x5, x6, x7, x8, x9, .v od, .v bd, .v (.lst (lamsD cells)), .no, .no] (lamsD cells) = some [.clo lam_0 [od, bd], .clo lam_1 [bd]] := clos_cons (clo_at (by kernel_rfl) (by kernel_rfl)) (clos_cons (clo_at (by kernel_rfl) (by kernel_rfl)) rfl)
  have nc0 : noClos [od, bd] = true := by show (noClo od && (noClo bd && true)) = true; rw [a4, t4]; rfl
  have nc1 : noClos [bd] = true := by show (noClo bd && true) = true; rw [t4]; rfl
  have run := whys_run (fc := fc) (n := 2) (lams := lams) (tab := ltab) (μ := stT s) (i := 14) (env := wipeD (List.map unown [x0, .v (.obj 1), x2, x3, x4, x5, x6, x7, x8, x9, .v od, .v bd, .v (.lst (lamsD cells)), .no, .no]) [14]) (by show 14 < 15; decide) rfl
    (qs := [(0, [od, bd], .tup [.str "InvalidPrime", od]), (1, [bd], .tup [.str "InvalidLength", bd])]) (by
      intro q hq
      simp only [List.mem_cons, List.not_mem_nil, or_false] at hq
      rcases hq with rfl | rfl
      · exact ⟨(by decide : 0 < 2), rfl, nc0, w0 ho hb s, rfl⟩
      · exact ⟨(by decide : 1 < 2), rfl, nc1, w1 hb s, rfl⟩)
  have run : lcRun (tName 14) dYes (dCall (fCall 1 m__law_why) (dCons (dVar 14) dNil)) (wipeD (List.map unown [x0, .v (.obj 1), x2, x3, x4, x5, x6, x7, x8, x9, .v od, .v bd, .v (.lst (lamsD cells)), .no, .no]) [14]) [.clo lam_0 [od, bd], .clo lam_1 [bd]] (stT s) = some (dueD od bd, stT s) := run
  have nx : noClos (dueD od bd) = true := by
    have h1 : noClo od = true := a4
    have h2 : noClo bd = true := t4
    simp only [dueD, noClos, noClo, h1, h2, Bool.and_self]
  have e1 : (dLcZ N_law (defScope s_law) cells (dIter (dVar 12)) [14] (tName 14) (dCall (fCall 1 m__law_why) (dCons (dVar 14) dNil))) [x0, .v (.obj 1), x2, x3, x4, x5, x6, x7, x8, x9, .v od, .v bd, .v (.lst (lamsD cells)), .no, .no] (stT s) = some (.val (.new (dueD od bd)), stT s) := by
    show lcFinZ N_law (defScope s_law) cells [14] (tName 14) (dCall (fCall 1 m__law_why) (dCons (dVar 14) dNil)) [x0, .v (.obj 1), x2, x3, x4, x5, x6, x7, x8, x9, .v od, .v bd, .v (.lst (lamsD cells)), .no, .no] (lamsD cells) (stT s) = _
    unfold lcFinZ
    rw [cl]
    dsimp only
    rw [run]
    dsimp only
    rw [if_pos ⟨nx, rfl⟩]
  have lk : lkD 11 (.lst (dueD od bd)) = true := by
    simp only [dueD, lkD, List.all_cons, List.all_nil, a5, t5, Bool.and_self, Bool.and_true]
    decide +kernel
  have e2 : (dLst (dCons (dTup (dCons (dC (.str "InvalidPrime")) (dCons (dVar 10) dNil))) (dCons (dTup (dCons (dC (.str "InvalidLength")) (dCons (dVar 11) dNil))) dNil))) [x0, .v (.obj 1), x2, x3, x4, x5, x6, x7, x8, x9, .v od, .v bd, .v (.lst (lamsD cells)), .no, .no] (stT s) = some (.val (.new (dueD od bd)), stT s) := by
    have c10 : dVar 10 [x0, .v (.obj 1), x2, x3, x4, x5, x6, x7, x8, x9, .v od, .v bd, .v (.lst (lamsD cells)), .no, .no] (stT s) = some (.val od, stT s) := rfl
    have c11 : dVar 11 [x0, .v (.obj 1), x2, x3, x4, x5, x6, x7, x8, x9, .v od, .v bd, .v (.lst (lamsD cells)), .no, .no] (stT s) = some (.val bd, stT s) := rfl
    simp (decide := true) only [dSeq, dIfS, dRet, dSkip, dAsg, tName, unbor, bindS, dTest, fTest, dBin, dC, dVar, dNotT, dAndT, dOrT, dAndV, dOrV, dIf, bindR, Dv.ret, hold_new, hold_int, hold_bl, hold_tup, hold_lst, hold_obj, hold_str, hold_non, hold_ty, hold_bor, dCall, dCons, dNil, dIter, fIter, dArg, nobor_new, nobor_int, nobor_bl, nobor_tup, nobor_lst, nobor_obj, nobor_str, nobor_non, nobor_ty, Bool.and_self, and_self, if_true, if_false, Bool.false_eq_true, Bool.not_true, Bool.not_false, List.all_cons, List.all_nil, List.length_cons, List.length_nil, Nat.zero_add, Nat.reduceAdd, List.getElem?_cons_zero, List.getElem?_cons_succ, List.set_cons_zero, List.set_cons_succ, fCall, decide_true, decide_false, dTup, fTup, dLst, fLst, a1, a3, t1, t3]
  have t : dNotT (dTest (dCall (fCall 2 (mLike 12)) (dCons (dLcZ N_law (defScope s_law) cells (dIter (dVar 12)) [14] (tName 14) (dCall (fCall 1 m__law_why) (dCons (dVar 14) dNil))) (dCons (dLst (dCons (dTup (dCons (dC (.str "InvalidPrime")) (dCons (dVar 10) dNil))) (dCons (dTup (dCons (dC (.str "InvalidLength")) (dCons (dVar 11) dNil))) dNil))) dNil)))) [x0, .v (.obj 1), x2, x3, x4, x5, x6, x7, x8, x9, .v od, .v bd, .v (.lst (lamsD cells)), .no, .no] (stT s) = some (.val false, stT s) := by
    have c := (sCall (f := fCall 2 (mLike 12)) (sCons e1 (sCons e2 sNil))).trans (call_ (like_refl 11 (.lst (dueD od bd)) lk) rfl rfl)
    unfold dNotT dTest
    rw [c]
    rfl
  exact ifs_f t rfl
end
/-- one turn's statements -/
noncomputable def turnB (cells : List (Str × Addr)) : DSt := (dSeq (dAsg (dCall (fCall 1 mLSizes) (dCons (dVar 1) dNil)) (Dv.tTup 2 (tsCons (tName 3) (tsCons (tName 4) tsNil))))
  (dSeq (dAsg (dLcG zz (dGen 2 (Pk.m_scaled_rows zz) (dCons (dVar 3) (dCons (dVar 4) dNil))) [13] (tName 13) dYes (dVar 13)) (tName 5))
  (dSeq (dAsg (dLcG zz (dGenK 2 0 2 [1, 0] (Pk.m_scaled_rows zz) dNil (dCons (dVar 4) (dCons (dVar 3) dNil))) [13] (tName 13) dYes (dVar 13)) (tName 6))
  (dSeq (dAsg (dCall (fCall 2 m__law_scaled_rows) (dCons (dVar 3) (dCons (dVar 4) dNil))) (tName 7))
  (dSeq (dAsg (dC (.int 1)) (tName 8))
  (dSeq (dFor (dArg fRange1 (dCons (dVar 4) dNil)) (tName 9) (dAsg (dBin fMul (dVar 8) (dVar 3)) (tName 8)))
  (dSeq (dIfS (dOrT (dNotT (dTest (dCall (fCall 2 (mLike 12)) (dCons (dVar 5) (dCons (dVar 7) dNil))))) (dOrT (dTest (dBin fNe (dVar 6) (dVar 7))) (dTest (dBin fNe (dBin fMul (dCall fLen (dCons (dVar 7) dNil)) (dBin fSub (dVar 3) (dC (.int 1)))) (dBin fSub (dVar 8) (dC (.int 1))))))) (dRet (dC (.bl false))) dSkip)
  (dSeq (dAsg (dCall (fCall 2 mOf) (dCons (dVar 1) (dCons (dLst (dCons (dC (.int 4)) (dCons (dC .non) (dCons (dC (.bl true)) (dCons (dC (.str "2")) dNil))))) dNil))) (tName 10))
  (dSeq (dAsg (dCall (fCall 2 mOf) (dCons (dVar 1) (dCons (dLst (dCons (dC (.int 0)) (dCons (dC (.int 7)) (dCons (dC .non) (dCons (dC (.bl true)) (dCons (dBin fSub (dC (.int 0)) (dC (.int 1))) dNil)))))) dNil))) (tName 11))
  (dSeq (dAsg (dLst (dCons (dLamV 0 ("law", none) (cloFrom cells lam_0.scope.names []) lam_0) (dCons (dLamV 0 ("law", none) (cloFrom cells lam_1.scope.names []) lam_1) dNil))) (tName 12))
  (dIfS (dNotT (dTest (dCall (fCall 2 (mLike 12)) (dCons (dLcZ N_law (defScope s_law) cells (dIter (dVar 12)) [14] (tName 14) (dCall (fCall 1 m__law_why) (dCons (dVar 14) dNil))) (dCons (dLst (dCons (dTup (dCons (dC (.str "InvalidPrime")) (dCons (dVar 10) dNil))) (dCons (dTup (dCons (dC (.str "InvalidLength")) (dCons (dVar 11) dNil))) dNil))) dNil))))) (dRet (dC (.bl false))) dSkip)))))))))))
theorem turn_ok {s : Src} (ho : OkS s) (cells : List (Str × Addr)) (x0 x2 x3 x4 x5 x6 x7 x8 x9 x10 x11 x12 : SV) : ∃ y3 y4 y5 y6 y7 y8 y9 y10 y11 y12 s', turnB cells [x0, .v (.obj 1), x2, x3, x4, x5, x6, x7, x8, x9, x10, x11, x12, .no, .no] (stT s) = some (.val .nx, [x0, .v (.obj 1), x2, y3, y4, y5, y6, y7, y8, y9, y10, y11, y12, .no, .no], stT s') ∧ OkS s' := by
  obtain ⟨p, n, s1, e1, hf, o1⟩ := sizes0 drw1 s ho
  obtain ⟨y5, y6, y7, y8, y9, ea⟩ := aAll hf s1 x0 x2 x5 x6 x7 x8 x9 x10 x11 x12
  obtain ⟨od, s2, hod, e2, o2⟩ := ofF drw1 s1 O4 o1 (by decide) (by decide) (fun d h => (o4 h).1) (fun d h => (o4 h).2.1)
  obtain ⟨bd, s3, hbd, e3, o3⟩ := ofF drw1 s2 B5 o2 (by decide) (by decide) (fun d h => (b5 h).1) (fun d h => (b5 h).2.1)
  obtain ⟨a1, a2, a3, a4, a5⟩ := o4 hod
  obtain ⟨t1, t2, t3, t4, t5⟩ := b5 hbd
  refine ⟨.v (.int p), .v (.int n), y5, y6, y7, y8, y9, .v od, .v bd, .v (.lst (lamsD cells)), s3, ?_, o3⟩
  unfold turnB
  refine seq_nx (env' := [x0, .v (.obj 1), x2, .v (.int p), .v (.int n), x5, x6, x7, x8, x9, x10, x11, x12, .no, .no]) (μ' := stT s1) (asg_ (d := .tup [.int p, .int n]) ((sCall (ds := [.obj 1]) (μ1 := stT s) rfl).trans (call_ e1)) rfl rfl) ?_
  refine (ea _).trans ?_
  refine seq_nx (env' := [x0, .v (.obj 1), x2, .v (.int p), .v (.int n), y5, y6, y7, y8, y9, .v od, x11, x12, .no, .no]) (μ' := stT s2) (asg_ (d := od) ((sCall (ds := [.obj 1, .lst O4]) (μ1 := stT s1) rfl).trans (call_ e2)) a1 (by rw [a3]; rfl)) ?_
  refine seq_nx (env' := [x0, .v (.obj 1), x2, .v (.int p), .v (.int n), y5, y6, y7, y8, y9, .v od, .v bd, x12, .no, .no]) (μ' := stT s3) (asg_ (d := bd) ((sCall (ds := [.obj 1, .lst B5]) (μ1 := stT s2) rfl).trans (call_ e3)) t1 (by rw [t3]; rfl)) ?_
  refine seq_nx (c_asks s3 x0 x2 _ _ y5 y6 y7 y8 y9 x12 cells od bd) ?_
  exact whys_ok s3 x0 x2 _ _ y5 y6 y7 y8 y9 cells hod hbd
theorem last_ok (x0 x2 x3 x4 x5 x6 x7 x8 x9 x10 x11 x12 : SV) (s : Src) : (dRet (dBin fEq (dLcG zz (dGen 2 (Pk.m_scaled_rows zz) (dCons (dC (.int 3)) (dCons (dC (.int 2)) dNil))) [13] (tName 13) dYes (dVar 13)) (dLst (dCons (dTup (dCons (dC (.int 0)) (dCons (dC (.int 1)) dNil))) (dCons (dTup (dCons (dC (.int 1)) (dCons (dC (.int 0)) dNil))) (dCons (dTup (dCons (dC (.int 1)) (dCons (dC (.int 1)) dNil))) (dCons (dTup (dCons (dC (.int 1)) (dCons (dC (.int 2)) dNil))) dNil))))))) [x0, .v (.obj 1), x2, x3, x4, x5, x6, x7, x8, x9, x10, x11, x12, .no, .no] (stT s) = some (.val (.ret (.bl true)), [x0, .v (.obj 1), x2, x3, x4, x5, x6, x7, x8, x9, x10, x11, x12, .no, .no], stT s) := by kernel_rfl
theorem pure : Pure := by
  intro ns hl cells
  obtain ⟨s, e, ho⟩ := source_at 63 10014 ns hl [tb0]
  have ho := ho (by decide) (by decide)
  have e : m__law_source [.scr (intsD ns)] [tb0] = some (.val (.obj 1), stT s) := e
  obtain ⟨env', μ', ef, x2, x3, x4, x5, x6, x7, x8, x9, x10, x11, x12, s', rfl, rfl, o'⟩ := for_nx (tg := tName 2) (body := turnB cells) (fun env μ => ∃ x2 x3 x4 x5 x6 x7 x8 x9 x10 x11 x12 s, env = [.v (.scr (intsD ns)), .v (.obj 1), x2, x3, x4, x5, x6, x7, x8, x9, x10, x11, x12, .no, .no] ∧ μ = stT s ∧ OkS s)
    (rangeD 0 3) (fun d hd env μ ⟨x2, x3, x4, x5, x6, x7, x8, x9, x10, x11, x12, s, h1, h2, ho⟩ => by
      subst h1 h2
      obtain ⟨y3, y4, y5, y6, y7, y8, y9, y10, y11, y12, s', e, o⟩ := turn_ok ho cells (.v (.scr (intsD ns))) (.v d) x3 x4 x5 x6 x7 x8 x9 x10 x11 x12
      exact ⟨_, _, _, rfl, e, _, y3, y4, y5, y6, y7, y8, y9, y10, y11, y12, s', rfl, rfl, o⟩) [.v (.scr (intsD ns)), .v (.obj 1), .no, .no, .no, .no, .no, .no, .no, .no, .no, .no, .no, .no, .no] (stT s) ⟨_, _, _, _, _, _, _, _, _, _, _, s, rfl, rfl, ho⟩
  refine ⟨stT s', def_ret (env := [.v (.scr (intsD ns)), .v (.obj 1), x2, x3, x4, x5, x6, x7, x8, x9, x10, x11, x12, .no, .no]) ?_ rfl⟩
  show b_law cells [.v (.scr (intsD ns)), .no, .no, .no, .no, .no, .no, .no, .no, .no, .no, .no, .no, .no, .no] [tb0] = _
  unfold b_law
  refine seq_nx (env' := [.v (.scr (intsD ns)), .v (.obj 1), .no, .no, .no, .no, .no, .no, .no, .no, .no, .no, .no, .no, .no]) (μ' := stT s) (asg_ (d := .obj 1) (μ' := stT s) ?_ rfl rfl) ?_
  · exact (sCall (ds := [.scr (intsD ns)]) (μ1 := [tb0]) rfl).trans (call_ e)
  · exact seq_nx (for_of (ds := rangeD 0 3) (μ1 := stT s) rfl ef) (last_ok _ x2 x3 x4 x5 x6 x7 x8 x9 x10 x11 x12 s')
end Lw_k04

theorem PySem.Challenge.cw_mendcalls_k04_scaled_rows_in_order_holds : PySem.Challenge.rw_mendcalls_k04_scaled_rows_in_order.Holds := by
  exact Lw_k04.holds Lw_k04.pure
