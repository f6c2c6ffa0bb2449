import PyProof.Rows.All
import Wide.All
import OpenK.AllK
import Wide.FinOn
import HandS.ForMost
import HandS.ForExc
import HandS.TupAny
import HandS.WideBits
import HandS.Wide
import HandS.IsInst
import HandS.CallSlots
import HandS.Rev
import HandS.Zip
import HandS.EndBits
import PyProof.Rows.ChunkLeaf
import PySem.Challenge.RW_liftwave_k13_breadths_lowered
set_option Elab.async false
set_option linter.all false
set_option maxRecDepth 100000
set_option maxHeartbeats 4000000
/-! Vs: values in place of heaps, over the hand layer. -/
namespace Vs
open PySem PySem.Spec PyProof.Rows L2

/-- data -/
inductive D where
  | non | bl (b : Bool) | int (i : Int) | str (x : Str) | lst (xs : List D) | tup (xs : List D) | dic (ks vs : List D) | fn (a : Addr)

inductive R (α : Type) where
  | st | ok (a : α) | ex (c : Str)
def R.bind {α β : Type} : R α → (α → R β) → R β
  | .st, _ => .st
  | .ok a, f => f a
  | .ex c, _ => .ex c
@[simp] theorem R.bind_ok {α β : Type} (a : α) (f : α → R β) : (R.ok a).bind f = f a := rfl
@[simp] theorem R.bind_st {α β : Type} (f : α → R β) : (R.st).bind f = .st := rfl
@[simp] theorem R.bind_ex {α β : Type} (c : Str) (f : α → R β) : (R.ex c).bind f = .ex c := rfl

abbrev Env := List (Option D)

mutual
def immD : D → Bool
  | .non | .bl _ | .int _ | .str _ | .fn _ => true
  | .lst _ | .dic _ _ => false
  | .tup xs => immDs xs
def immDs : List D → Bool
  | [] => true
  | x :: xs => immD x && immDs xs
end

/-- a dict's key as data -/
def keyD : Key → D
  | .inl i => .int i
  | .inr x => .str x

mutual
/-- v is to be read as d -/
inductive Rd (K : PySem.W.Frag) (H : Hp) : V → D → Prop
  | non : Rd K H .non .non
  | bl (b : Bool) : Rd K H (.bl b) (.bl b)
  | int (i : Int) : Rd K H (.int i) (.int i)
  | str (x : Str) : Rd K H (.str x) (.str x)
  | fn (a : Addr) : Rd K H (.ref a) (.fn a)
  | lst {a : Addr} {vs : List V} {ds : List D} : SqL K H a vs → Rds K H vs ds → Rd K H (.ref a) (.lst ds)
  | tup {a : Addr} {vs : List V} {ds : List D} : SqT K H a vs → Rds K H vs ds → Rd K H (.ref a) (.tup ds)
  | dk {a : Addr} {kvs : List (Key × V)} {ks : List D} {ds : List D} : H a = some (.dK kvs) → ks = kvs.map (fun p => keyD p.1) → Rds K H (kvs.map (·.2)) ds → Rd K H (.ref a) (.dic ks ds)
  | dt {a : Addr} {kvs : List (List Key × V)} {ks : List D} {ds : List D} : H a = some (.dT kvs) → ks = kvs.map (fun p => D.tup (p.1.map keyD)) → Rds K H (kvs.map (·.2)) ds → Rd K H (.ref a) (.dic ks ds)
inductive Rds (K : PySem.W.Frag) (H : Hp) : List V → List D → Prop
  | nil : Rds K H [] []
  | cons {v : V} {vs : List V} {d : D} {ds : List D} : Rd K H v d → Rds K H vs ds → Rds K H (v :: vs) (d :: ds)
end

mutual
/-- v is d, and the lists of d stand at A, each once -/
inductive Fu (K : PySem.W.Frag) (H : Hp) : V → D → List Addr → Prop
  | non : Fu K H .non .non []
  | bl (b : Bool) : Fu K H (.bl b) (.bl b) []
  | int (i : Int) : Fu K H (.int i) (.int i) []
  | str (x : Str) : Fu K H (.str x) (.str x) []
  | fn (a : Addr) : Fu K H (.ref a) (.fn a) []
  | lst {a : Addr} {vs : List V} {ds : List D} {A : List Addr} : H a = some (.lst vs) → Fus K H vs ds A → a ∉ A → Fu K H (.ref a) (.lst ds) (a :: A)
  | tup {a : Addr} {vs : List V} {ds : List D} {A : List Addr} : SqT K H a vs → Fus K H vs ds A → Fu K H (.ref a) (.tup ds) A
  | dk {a : Addr} {kvs : List (Key × V)} {ks : List D} {ds : List D} {A : List Addr} : H a = some (.dK kvs) → ks = kvs.map (fun p => keyD p.1) → Fus K H (kvs.map (·.2)) ds A → a ∉ A → Fu K H (.ref a) (.dic ks ds) (a :: A)
  | dt {a : Addr} {kvs : List (List Key × V)} {ks : List D} {ds : List D} {A : List Addr} : H a = some (.dT kvs) → ks = kvs.map (fun p => D.tup (p.1.map keyD)) → Fus K H (kvs.map (·.2)) ds A → a ∉ A → Fu K H (.ref a) (.dic ks ds) (a :: A)
inductive Fus (K : PySem.W.Frag) (H : Hp) : List V → List D → List Addr → Prop
  | nil : Fus K H [] [] []
  | cons {v : V} {vs : List V} {d : D} {ds : List D} {A B : List Addr} : Fu K H v d A → Fus K H vs ds B → (∀ x ∈ A, x ∉ B) → Fus K H (v :: vs) (d :: ds) (A ++ B)
end

section
variable {K : PySem.W.Frag} {H H' S : Hp}

theorem seqT (e : Same H H') {a : Addr} {xs : List V} (h : SqT K H a xs) : SqT K H' a xs := by
  rcases h with (h | ⟨o, h⟩) | h
  · exact .inl (.inl (e _ _ h))
  · exact .inl (.inr ⟨o, e _ _ h⟩)
  · exact .inr h

mutual
theorem Rd.mono (e : Same H H') : ∀ {v : V} {d : D}, Rd K H v d → Rd K H' v d
  | _, _, .non => .non
  | _, _, .bl b => .bl b
  | _, _, .int i => .int i
  | _, _, .str x => .str x
  | _, _, .fn a => .fn a
  | _, _, .lst h r => .lst (e.seq h) (Rds.mono e r)
  | _, _, .tup h r => .tup (seqT e h) (Rds.mono e r)
  | _, _, .dk h q r => .dk (e _ _ h) q (Rds.mono e r)
  | _, _, .dt h q r => .dt (e _ _ h) q (Rds.mono e r)
theorem Rds.mono (e : Same H H') : ∀ {vs : List V} {ds : List D}, Rds K H vs ds → Rds K H' vs ds
  | _, _, .nil => .nil
  | _, _, .cons h r => .cons (Rd.mono e h) (Rds.mono e r)
end

mutual
theorem Fu.rd : ∀ {v : V} {d : D} {A : List Addr}, Fu K H v d A → Rd K H v d
  | _, _, _, .non => .non
  | _, _, _, .bl b => .bl b
  | _, _, _, .int i => .int i
  | _, _, _, .str x => .str x
  | _, _, _, .fn a => .fn a
  | _, _, _, .lst h r _ => .lst (SqL.of h) (Fus.rd r)
  | _, _, _, .tup h r => .tup h (Fus.rd r)
  | _, _, _, .dk h q r _ => .dk h q (Fus.rd r)
  | _, _, _, .dt h q r _ => .dt h q (Fus.rd r)
theorem Fus.rd : ∀ {vs : List V} {ds : List D} {A : List Addr}, Fus K H vs ds A → Rds K H vs ds
  | _, _, _, .nil => .nil
  | _, _, _, .cons h r _ => .cons (Fu.rd h) (Fus.rd r)
end

mutual
/-- what is owned stays where its lists stay, and the tuples -/
theorem Fu.at : ∀ {v : V} {d : D} {A : List Addr}, Fu K H v d A → (∀ a ∈ A, H' a = H a) → (∀ b xs, SqT K H b xs → SqT K H' b xs) → Fu K H' v d A
  | _, _, _, .non, _, _ => .non
  | _, _, _, .bl b, _, _ => .bl b
  | _, _, _, .int i, _, _ => .int i
  | _, _, _, .str x, _, _ => .str x
  | _, _, _, .fn a, _, _ => .fn a
  | _, _, _, .lst h r n, k, t => .lst ((k _ List.mem_cons_self).trans h) (Fus.at r (fun a ha => k a (List.mem_cons_of_mem _ ha)) t) n
  | _, _, _, .tup h r, k, t => .tup (t _ _ h) (Fus.at r k t)
  | _, _, _, .dk h q r n, k, t => .dk ((k _ List.mem_cons_self).trans h) q (Fus.at r (fun a ha => k a (List.mem_cons_of_mem _ ha)) t) n
  | _, _, _, .dt h q r n, k, t => .dt ((k _ List.mem_cons_self).trans h) q (Fus.at r (fun a ha => k a (List.mem_cons_of_mem _ ha)) t) n
theorem Fus.at : ∀ {vs : List V} {ds : List D} {A : List Addr}, Fus K H vs ds A → (∀ a ∈ A, H' a = H a) → (∀ b xs, SqT K H b xs → SqT K H' b xs) → Fus K H' vs ds A
  | _, _, _, .nil, _, _ => .nil
  | _, _, _, .cons h r n, k, t => .cons (Fu.at h (fun a ha => k a (List.mem_append_left _ ha)) t) (Fus.at r (fun a ha => k a (List.mem_append_right _ ha)) t) n
end

mutual
/-- the owned lists are tracked -/
theorem Fu.there : ∀ {v : V} {d : D} {A : List Addr}, Fu K H v d A → ∀ a ∈ A, ∃ o, H a = some o
  | _, _, _, .non, _, h => nomatch h
  | _, _, _, .bl b, _, h => nomatch h
  | _, _, _, .int i, _, h => nomatch h
  | _, _, _, .str x, _, h => nomatch h
  | _, _, _, .fn a, _, h => nomatch h
  | _, _, _, .lst h r n, a, m => by
    rcases List.mem_cons.mp m with e | m
    · exact ⟨_, e ▸ h⟩
    · exact Fus.there r a m
  | _, _, _, .tup h r, a, m => Fus.there r a m
  | _, _, _, .dk h q r n, a, m => by
    rcases List.mem_cons.mp m with e | m
    · exact ⟨_, e ▸ h⟩
    · exact Fus.there r a m
  | _, _, _, .dt h q r n, a, m => by
    rcases List.mem_cons.mp m with e | m
    · exact ⟨_, e ▸ h⟩
    · exact Fus.there r a m
theorem Fus.there : ∀ {vs : List V} {ds : List D} {A : List Addr}, Fus K H vs ds A → ∀ a ∈ A, ∃ o, H a = some o
  | _, _, _, .nil, _, h => nomatch h
  | _, _, _, .cons h r _, a, m => by
    rcases List.mem_append.mp m with m | m
    · exact Fu.there h a m
    · exact Fus.there r a m
end
theorem Fu.same {v : V} {d : D} {A : List Addr} (f : Fu K H v d A) (e : Same H H') : Fu K H' v d A :=
  f.at (fun a ha => by obtain ⟨o, h⟩ := f.there a ha; rw [h]; exact e a o h) fun b xs h => seqT e h
theorem Fus.same {v : List V} {d : List D} {A : List Addr} (f : Fus K H v d A) (e : Same H H') : Fus K H' v d A :=
  f.at (fun a ha => by obtain ⟨o, h⟩ := f.there a ha; rw [h]; exact e a o h) fun b xs h => seqT e h

mutual
theorem Rd.fu : ∀ {v : V} {d : D}, Rd K H v d → immD d = true → Fu K H v d []
  | _, _, .non, _ => .non
  | _, _, .bl b, _ => .bl b
  | _, _, .int i, _ => .int i
  | _, _, .str x, _ => .str x
  | _, _, .fn a, _ => .fn a
  | _, _, .lst _ _, m => absurd m (by rw [immD]; exact Bool.false_ne_true)
  | _, _, .tup h r, m => .tup h (Rds.fu r (by rw [immD] at m; exact m))
  | _, _, .dk _ _ _, m => absurd m (by rw [immD]; exact Bool.false_ne_true)
  | _, _, .dt _ _ _, m => absurd m (by rw [immD]; exact Bool.false_ne_true)
theorem Rds.fu : ∀ {vs : List V} {ds : List D}, Rds K H vs ds → immDs ds = true → Fus K H vs ds []
  | _, _, .nil, _ => .nil
  | _, _, .cons h r, m => Fus.cons (A := []) (B := []) (Rd.fu h (by rw [immDs, Bool.and_eq_true] at m; exact m.1)) (Rds.fu r (by rw [immDs, Bool.and_eq_true] at m; exact m.2)) (fun _ h => nomatch h)
end
theorem Fus.app {vs ws : List V} {ds es : List D} {A B : List Addr} (f : Fus K H vs ds A) (g : Fus K H ws es B) (n : ∀ x ∈ A, x ∉ B) : Fus K H (vs ++ ws) (ds ++ es) (A ++ B) := by
  induction vs generalizing ds A with
  | nil => cases f; exact g
  | cons v vs ih =>
    cases f with
    | cons h r m =>
      rw [List.append_assoc]
      refine .cons h (ih r fun x hx => n x (List.mem_append_right _ hx)) fun x hx q => ?_
      rcases List.mem_append.mp q with q | q
      · exact m x hx q
      · exact n x (List.mem_append_left _ hx) q
theorem Rds.app {vs ws : List V} {ds es : List D} (f : Rds K H vs ds) (g : Rds K H ws es) : Rds K H (vs ++ ws) (ds ++ es) := by
  induction vs generalizing ds with
  | nil => cases f; exact g
  | cons v vs ih =>
    cases f with
    | cons h r => exact .cons h (ih r)
theorem Rds.length {vs : List V} {ds : List D} (f : Rds K H vs ds) : vs.length = ds.length := by
  induction vs generalizing ds with
  | nil => cases f; rfl
  | cons v vs ih =>
    cases f with
    | cons h r => simp [ih r]
theorem Rds.get {vs : List V} {ds : List D} (f : Rds K H vs ds) : ∀ {i : Nat} {d : D}, ds[i]? = some d → ∃ v, vs[i]? = some v ∧ Rd K H v d := by
  induction vs generalizing ds with
  | nil => cases f; intro i d h; simp at h
  | cons v vs ih =>
    cases f with
    | cons h r =>
      intro i d q
      cases i with
      | zero => simp at q; subst q; exact ⟨v, rfl, h⟩
      | succ i => simpa using ih r (by simpa using q)
theorem Rds.getV {vs : List V} {ds : List D} (f : Rds K H vs ds) : ∀ {i : Nat} {v : V}, vs[i]? = some v → ∃ d, ds[i]? = some d ∧ Rd K H v d := by
  induction vs generalizing ds with
  | nil => intro i v h; simp at h
  | cons v vs ih =>
    cases f with
    | cons h r =>
      intro i d q
      cases i with
      | zero => simp at q; subst q; exact ⟨_, rfl, h⟩
      | succ i => simpa using ih r (by simpa using q)
theorem Fus.length {vs : List V} {ds : List D} {A : List Addr} (f : Fus K H vs ds A) : vs.length = ds.length := f.rd.length
/-- an item of what is owned -/
theorem Fus.get {vs : List V} {ds : List D} {A : List Addr} (f : Fus K H vs ds A) : ∀ {i : Nat} {d : D}, ds[i]? = some d → ∃ v A', vs[i]? = some v ∧ Fu K H v d A' ∧ ∀ a ∈ A', a ∈ A := by
  induction vs generalizing ds A with
  | nil => cases f; intro i d h; simp at h
  | cons v vs ih =>
    cases f with
    | cons h r m =>
      intro i d q
      cases i with
      | zero => simp at q; subst q; exact ⟨v, _, rfl, h, fun a ha => List.mem_append_left _ ha⟩
      | succ i =>
        obtain ⟨w, A', h1, h2, h3⟩ := ih r (by simpa using q : _ = some d)
        exact ⟨w, A', by simpa using h1, h2, fun a ha => List.mem_append_right _ (h3 a ha)⟩
/-- an item changed for another -/
theorem Fus.set {vs : List V} {ds : List D} {A B : List Addr} {w : V} {e : D} (g : Fu K H w e B) : ∀ {vs : List V} {ds : List D} {A : List Addr}, Fus K H vs ds A → (∀ x ∈ B, x ∉ A) → ∀ i, ∃ A', Fus K H (vs.set i w) (ds.set i e) A' ∧ ∀ a ∈ A', a ∈ A ∨ a ∈ B := by
  intro vs
  induction vs with
  | nil => intro ds A f n i; cases f; exact ⟨[], .nil, fun a h => nomatch h⟩
  | cons v vs ih =>
    intro ds A f n i
    cases f with
    | cons h r m =>
      rename_i A1 A2
      cases i with
      | zero =>
        refine ⟨_, .cons g r fun x hx q => n x hx (List.mem_append_right _ q), fun a ha => ?_⟩
        rcases List.mem_append.mp ha with q | q
        · exact .inr q
        · exact .inl (List.mem_append_right _ q)
      | succ i =>
        obtain ⟨A', h1, h2⟩ := ih r (fun x hx q => n x hx (List.mem_append_right _ q)) i
        refine ⟨_, .cons h h1 fun x hx q => ?_, fun a ha => ?_⟩
        · rcases h2 x q with q | q
          · exact m x hx q
          · exact n x q (List.mem_append_left _ hx)
        · rcases List.mem_append.mp ha with q | q
          · exact .inl (List.mem_append_left _ q)
          · rcases h2 a q with q | q
            · exact .inl (List.mem_append_right _ q)
            · exact .inr q
end

/-! ### the outcome of an expression -/
/-- the slots' values read as data -/
structure REnv (K : PySem.W.Frag) (ρ : Env) (σ : L2.St) (H : Hp) : Prop where
  len : ρ.length = σ.length
  val : ∀ (i : Nat) (d : D), ρ[i]? = some (some d) → ∃ v, σ[i]? = some (some v) ∧ Rd K H v d
theorem REnv.mono {K : PySem.W.Frag} {ρ : Env} {σ : L2.St} {H H' : Hp} (h : REnv K ρ σ H) (e : Same H H') : REnv K ρ σ H' := ⟨h.len, fun i d q =>
  let ⟨v, h1, h2⟩ := h.val i d q
  ⟨v, h1, h2.mono e⟩⟩

section
variable {α β : Type}
def Out (mg : Str → Option Value) (W : WX) (σ : L2.St) (H : Hp) (r : R α) (P : α → Prop) : Prop := match r with
  | .ok a => P a
  | .ex c => ∃ C, mg c = some (.ref C) ∧ ∀ H', Same H H' → W (.ref C) none σ H'
  | .st => False
variable {mg : Str → Option Value} {W : WX} {σ : L2.St} {H H' : Hp}
theorem Out.bind {r : R α} {g : α → R β} {P : β → Prop} (h : Out mg W σ H (r.bind g) P) : Out mg W σ H r fun a => Out mg W σ H (g a) P := by
  cases r with
  | ok a => exact h
  | ex c => exact h
  | st => exact h
theorem Out.mono {r : R α} {P P' : α → Prop} (h : Out mg W σ H r P) (q : ∀ a, r = .ok a → P a → P' a) : Out mg W σ H r P' := by
  cases r with
  | ok a => exact q a rfl h
  | ex c => exact h
  | st => exact h
theorem Out.up {r : R α} {P : α → Prop} (h : Out mg W σ H r P) (e : Same H H') : Out mg W σ H' r P := by
  cases r with
  | ok a => exact h
  | ex c => obtain ⟨C, h1, h2⟩ := h; exact ⟨C, h1, fun H2 s => h2 H2 (e.trans s)⟩
  | st => exact h
end

/-- a value that is read -/
def tF (K : PySem.W.Frag) (mg : Str → Option Value) (W : WX) (f : Env → R D) : TE := fun σ H Q => ∃ ρ, REnv K ρ σ H ∧ Out mg W σ H (f ρ) fun d => ∀ v H', Same H H' → Rd K H' v d → Q v H'
/-- a value that is new and the asker's own -/
def tG (K : PySem.W.Frag) (mg : Str → Option Value) (W : WX) (f : Env → R D) : TE := fun σ H Q => ∃ ρ, REnv K ρ σ H ∧ Out mg W σ H (f ρ) fun d => ∀ v H' A, Same H H' → Fu K H' v d A → (∀ a ∈ A, H a = none) → Q v H'
/-- several values -/
def tFs (K : PySem.W.Frag) (mg : Str → Option Value) (W : WX) (f : Env → R (List D)) : TA := fun σ H Q => ∃ ρ, REnv K ρ σ H ∧ Out mg W σ H (f ρ) fun ds => ∀ vs H', Same H H' → Rds K H' vs ds → Q vs H'
def tGs (K : PySem.W.Frag) (mg : Str → Option Value) (W : WX) (f : Env → R (List D)) : TA := fun σ H Q => ∃ ρ, REnv K ρ σ H ∧ Out mg W σ H (f ρ) fun ds => ∀ vs H' A, Same H H' → Fus K H' vs ds A → (∀ a ∈ A, H a = none) → Q vs H'
/-- a test -/
def tT (K : PySem.W.Frag) (mg : Str → Option Value) (W : WX) (f : Env → R Bool) : TT := fun σ H Q => ∃ ρ, REnv K ρ σ H ∧ Out mg W σ H (f ρ) fun b => ∀ H', Same H H' → Q b H'

structure VE (X : Cx) (W : WX) (e : Expr) (f : Env → R D) : Prop where
  pe : PE X e (tF X.K X.mg W f)
structure VG (X : Cx) (W : WX) (e : Expr) (f : Env → R D) : Prop where
  pe : PE X e (tG X.K X.mg W f)
structure VT (X : Cx) (W : WX) (e : Expr) (f : Env → R Bool) : Prop where
  pt : PT X e (tT X.K X.mg W f)
structure VW (X : Cx) (W : WX) (e : Expr) (f : Env → R Bool) : Prop where
  pw : PW X e (tT X.K X.mg W f)
structure VA (X : Cx) (W : WX) (es : List Expr) (f : Env → R (List D)) : Prop where
  pa : PA X es (tFs X.K X.mg W f)
structure VB (X : Cx) (W : WX) (es : List Expr) (f : Env → R (List D)) : Prop where
  pa : PA X es (tGs X.K X.mg W f)

/-- weaker readings -/
theorem peW {X : Cx} {e : Expr} {t u : TE} (h : PE X e t) (q : ∀ σ H Q, u σ H Q → t σ H Q) : PE X e u := ⟨fun pins s σ H Q I x => h.run pins s σ H Q I (q σ H Q x)⟩
theorem ptW {X : Cx} {e : Expr} {t u : TT} (h : PT X e t) (q : ∀ σ H Q, u σ H Q → t σ H Q) : PT X e u := ⟨fun pins s σ H Q I x => h.run pins s σ H Q I (q σ H Q x)⟩
theorem pwW {X : Cx} {e : Expr} {t u : TT} (h : PW X e t) (q : ∀ σ H Q, u σ H Q → t σ H Q) : PW X e u := ⟨fun wh pins s σ H Q I x => h.run wh pins s σ H Q I (q σ H Q x)⟩
theorem paW {X : Cx} {es : List Expr} {t u : TA} (h : PA X es t) (q : ∀ σ H Q, u σ H Q → t σ H Q) : PA X es u := ⟨fun pos pins s σ H Q I x => h.run pos pins s σ H Q I (q σ H Q x)⟩
theorem psW {X : Cx} {st : Stmt} {t u : TS} (h : PS X st t) (q : ∀ D σ H, u D σ H → t D σ H) : PS X st u := ⟨fun pins s σ H D I x => h.run pins s σ H D I (q D σ H x)⟩
theorem pssW {X : Cx} {st : List Stmt} {t u : TS} (h : PSs X st t) (q : ∀ D σ H, u D σ H → t D σ H) : PSs X st u := ⟨fun pins s σ H D I x => h.run pins s σ H D I (q D σ H x)⟩

section
variable {X : Cx} {W : WX} {e a b c : Expr} {es : List Expr} {f g h : Env → R D} {pos : Pos}
theorem VG.ve (v : VG X W e f) : VE X W e f := ⟨peW v.pe fun σ H Q ⟨ρ, r, o⟩ => ⟨ρ, r, o.mono fun d _ q v H' A s fu _ => q v H' s fu.rd⟩⟩
/-- what is no list is anyone's -/
def imm (f : Env → R D) (ρ : Env) : R D := (f ρ).bind fun d => if immD d = true then .ok d else .st
theorem VE.vg (v : VE X W e f) : VG X W e (imm f) := ⟨peW v.pe fun σ H Q ⟨ρ, r, o⟩ => ⟨ρ, r, (Out.bind o).mono fun d _ q v H' s rd => by
  by_cases m : immD d = true
  · rw [if_pos m] at q
    exact q v H' [] s (rd.fu m) (fun _ h => nomatch h)
  · rw [if_neg m] at q
    exact q.elim⟩⟩

/-! ### names, constants -/
def varE (i : Nat) (ρ : Env) : R D := match ρ[i]? with
  | some (some d) => .ok d
  | _ => .st
theorem ve_var (i : Nat) {x : Str} (p : PE X (.Name x pos) (tVar i)) : VE X W (.Name x pos) (varE i) := ⟨peW p fun σ H Q ⟨ρ, r, o⟩ => by
  unfold varE at o
  split at o
  · rename_i d e
    obtain ⟨v, h1, h2⟩ := r.val i d e
    exact ⟨v, h1, o v H (Same.refl H) h2⟩
  · exact o.elim⟩
def cE (d : D) (_ : Env) : R D := .ok d
theorem vg_c {v : V} {d : D} (p : PE X e (tC v)) (fu : ∀ H, Fu X.K H v d []) : VG X W e (cE d) := ⟨peW p fun σ H Q ⟨ρ, r, o⟩ => o v H [] (Same.refl H) (fu H) (fun _ h => nomatch h)⟩
theorem vg_int {i : Int} {j} : VG X W (.Constant (.int i) j pos) (cE (.int i)) := vg_c pe_int fun _ => .int i
theorem vg_str {i : Str} {j} : VG X W (.Constant (.str i) j pos) (cE (.str i)) := vg_c pe_str fun _ => .str i
theorem vg_bl {i : Bool} {j} : VG X W (.Constant (.bool i) j pos) (cE (.bl i)) := vg_c pe_bl fun _ => .bl i
theorem vg_non {j} : VG X W (.Constant .none j pos) (cE .non) := vg_c pe_non fun _ => .non

/-! ### argument lists -/
def nilA (_ : Env) : R (List D) := .ok []
def consA (f : Env → R D) (fs : Env → R (List D)) (ρ : Env) : R (List D) := (f ρ).bind fun d => (fs ρ).bind fun ds => .ok (d :: ds)
theorem va_nil : VA X W [] nilA := ⟨paW pa_nil fun σ H Q ⟨ρ, r, o⟩ => o [] H (Same.refl H) .nil⟩
theorem vb_nil : VB X W [] nilA := ⟨paW pa_nil fun σ H Q ⟨ρ, r, o⟩ => o [] H [] (Same.refl H) .nil (fun _ h => nomatch h)⟩
theorem va_cons {fs : Env → R (List D)} (ha : VE X W e f) (hr : VA X W es fs) (hs : starEach (e :: es) X.env = (false, eval e X.env) :: starEach es X.env := by rfl) : VA X W (e :: es) (consA f fs) :=
  ⟨paW (pa_cons ha.pe hr.pa hs) fun σ H Q ⟨ρ, r, o⟩ => ⟨ρ, r, (Out.bind o).mono fun d _ q v H1 s1 r1 => ⟨ρ, r.mono s1, ((Out.bind q).up s1).mono fun ds _ q vs H2 s2 r2 => q (v :: vs) H2 (s1.trans s2) (.cons (r1.mono s2) r2)⟩⟩⟩
theorem vb_cons {fs : Env → R (List D)} (ha : VG X W e f) (hr : VB X W es fs) (hs : starEach (e :: es) X.env = (false, eval e X.env) :: starEach es X.env := by rfl) : VB X W (e :: es) (consA f fs) :=
  ⟨paW (pa_cons ha.pe hr.pa hs) fun σ H Q ⟨ρ, r, o⟩ => ⟨ρ, r, (Out.bind o).mono fun d _ q v H1 A s1 f1 n1 => ⟨ρ, r.mono s1, ((Out.bind q).up s1).mono fun ds _ q vs H2 B s2 f2 n2 => q (v :: vs) H2 (A ++ B) (s1.trans s2)
    (.cons (f1.same s2) f2 fun x hx hb => by obtain ⟨o, ho⟩ := f1.there x hx; rw [n2 x hb] at ho; cases ho)
    fun x hx => (List.mem_append.mp hx).elim (fun z => n1 x z) fun z => s1.free (n2 x z)⟩⟩⟩

/-! ### operators by values -/
/-- an operator's rule over data: pure, the result new -/
def OpD (X : Cx) (r : R2) (g : D → D → R D) : Prop := ∀ (x y : V) (d e : D) (H : Hp) (Q : VK) (z : D), Rd X.K H x d → Rd X.K H y e → g d e = .ok z → (∀ v H' A, Same H H' → Fu X.K H' v z A → (∀ a ∈ A, H a = none) → Q v H') → r x y H Q
def op2 (g : D → D → R D) (f h : Env → R D) (ρ : Env) : R D := (f ρ).bind fun d => (h ρ).bind fun e => g d e
def NoEx2 (g : D → D → R D) : Prop := ∀ d e c, g d e ≠ .ex c
theorem tOp_of {r : R2} {g : D → D → R D} (k : OpD X r g) (n : NoEx2 g) {σ : L2.St} {H : Hp} {Q : VK} (hh : tG X.K X.mg W (op2 g f h) σ H Q) : tOp r (tF X.K X.mg W f) (tF X.K X.mg W h) σ H Q := by
  obtain ⟨ρ, re, o⟩ := hh
  refine ⟨ρ, re, (Out.bind o).mono fun d _ q v H1 s1 r1 => ?_⟩
  refine ⟨ρ, re.mono s1, ((Out.bind q).up s1).mono fun e _ q w H2 s2 r2 => ?_⟩
  cases hz : g d e with
  | ok z =>
    rw [hz] at q
    exact k v w d e H2 Q z (r1.mono s2) r2 hz fun u H3 A s3 f3 n3 => q u H3 A ((s1.trans s2).trans s3) f3 fun a ha => (s1.trans s2).free (n3 a ha)
  | ex c => exact absurd hz (n d e c)
  | st => rw [hz] at q; exact q.elim
theorem vg_op {op : Operator} {r : R2} {g : D → D → R D} (ho : OpR X (binaryOp op) r) (k : OpD X r g) (n : NoEx2 g) (ha : VE X W a f) (hb : VE X W b h) : VG X W (.BinOp a op b pos) (op2 g f h) :=
  ⟨peW (pe_op ho ha.pe hb.pe) fun σ H Q q => tOp_of k n q⟩
theorem vg_cmp {op : CmpOp} {r : R2} {g : D → D → R D} (ho : OpR X (compareOp op) r) (k : OpD X r g) (n : NoEx2 g) (ha : VE X W a f) (hb : VE X W b h) (hm : behindInMarks op b = false) : VG X W (.Compare a [op] [b] pos) (op2 g f h) :=
  ⟨peW (pe_cmpR ho ha.pe hb.pe hm) fun σ H Q q => tOp_of k n q⟩
end
end Vs

namespace Vs
open PySem PySem.Spec PyProof.Rows L2

/-! ### operators -/
section
variable {X : Cx}
def rCatR (K : PySem.W.Frag) : R2 := fun x y H Q => ∃ l b xs zs, x = .ref l ∧ y = .ref b ∧ SqL K H l xs ∧ SqL K H b zs ∧ xs.length + zs.length ≤ sizeLine ∧ ∀ p, H p = none → Q (.ref p) (upd H p (.lst (xs ++ zs)))
theorem op_catR : OpR X (binaryOp .Add) (rCatR X.K) := by
  intro pins s σ H x y v u Q I rx ry h
  obtain ⟨l, b, xs, zs, rfl, rfl, hH, hB, hz, q⟩ := h
  cases rx
  cases ry
  obtain ⟨its, r, ⟨o, n, ho, hc, hdc, hd⟩, z⟩ := I.list hH
  obtain ⟨its2, r2, ⟨o2, n2, ho2, hc2, hdc2, hd2⟩, z2⟩ := I.list hB
  have l1 := r.length
  have l2 := r2.length
  obtain ⟨cls, dd, data, sl⟩ := o
  obtain ⟨cls2, dd2, data2, sl2⟩ := o2
  simp only at hc hd hc2 hd2 hdc hdc2
  subst hc hd hc2 hd2 hdc hdc2
  have ea : its.toArray ++ its2.toArray = (its ++ its2).toArray := by simp
  refine concat_meets ⟨_, ho, rfl⟩ ⟨_, ho2, rfl⟩ noFill_list_add seq_list_add F.slot_list_add F.entry_list_add (F.args_list_add_2 _ _) (list_addW l b its.toArray its2.toArray n n2 none none sl sl2 (by rw [List.size_toArray, List.size_toArray]; omega)) ⟨ho, ho2, ?_⟩
  rw [ea]
  exact ⟨.ref _, _, I.lnew (t' := s.toks) (r.append r2) (by rw [List.length_append]; omega), rfl, q _ I.fresh⟩
end

theorem new_same {H : Hp} {p : Addr} {o : HO} (h : H p = none) : Same H (upd H p o) := fun b x e => by
  rw [upd_ne (ne_of_none e h)]
  exact e
section
variable {K : PySem.W.Frag} {H : Hp}
theorem fu_new_lst {p : Addr} {vs : List V} {ds : List D} (hp : H p = none) (f : Rds K H vs ds) (m : immDs ds = true) : Fu K (upd H p (.lst vs)) (.ref p) (.lst ds) [p] :=
  .lst upd_same ((f.fu m).same (new_same hp)) (fun h => nomatch h)
theorem fu_new_tup {p : Addr} {vs : List V} {ds : List D} (hp : H p = none) (f : Rds K H vs ds) (m : immDs ds = true) : Fu K (upd H p (.tup vs)) (.ref p) (.tup ds) [] :=
  .tup (SqT.of upd_same) ((f.fu m).same (new_same hp))
theorem immDs_app : ∀ {xs ys : List D}, immDs xs = true → immDs ys = true → immDs (xs ++ ys) = true
  | [], _, _, h => h
  | x :: xs, ys, h, h' => by
    rw [immDs, Bool.and_eq_true] at h
    show (immD x && immDs (xs ++ ys)) = true
    rw [h.1, immDs_app h.2 h']
    rfl
theorem Rds.flat {vs : List V} {ds : List D} (f : Rds K H vs ds) : ∀ n, Rds K H (List.replicate n vs).flatten (List.replicate n ds).flatten
  | 0 => .nil
  | n + 1 => by
    rw [List.replicate_succ, List.replicate_succ, List.flatten_cons, List.flatten_cons]
    exact f.app (f.flat n)
theorem immDs_flat {ds : List D} (m : immDs ds = true) : ∀ n, immDs (List.replicate n ds).flatten = true
  | 0 => rfl
  | n + 1 => by
    rw [List.replicate_succ, List.flatten_cons]
    exact immDs_app m (immDs_flat m n)
end

def addD : D → D → R D
  | .int i, .int j => .ok (.int (i + j))
  | .str x, .str y => if x.length + y.length ≤ sizeLine then .ok (.str (x ++ y)) else .st
  | .lst xs, .lst ys => if xs.length + ys.length ≤ sizeLine ∧ immDs xs = true ∧ immDs ys = true then .ok (.lst (xs ++ ys)) else .st
  | .tup xs, .tup ys => if xs.length + ys.length ≤ sizeLine ∧ immDs xs = true ∧ immDs ys = true then .ok (.tup (xs ++ ys)) else .st
  | _, _ => .st
def subD : D → D → R D
  | .int i, .int j => .ok (.int (i - j))
  | _, _ => .st
def mulOk (i j : Int) : Prop := i.natAbs.log2 + j.natAbs.log2 < 134217000
instance (i j : Int) : Decidable (mulOk i j) := inferInstanceAs (Decidable (_ < _))
theorem mulOk.ok {i j : Int} (h : mulOk i j) : IntMulOk i j := by
  have b : ∀ x : Int, Builtin.Int.intBits x ≤ x.natAbs.log2 + 1 := fun x => by
    unfold Builtin.Int.intBits
    split <;> omega
  have h1 := b i
  have h2 := b j
  have h3 : i.natAbs.log2 + j.natAbs.log2 < 134217000 := h
  have e : bitsLine = 134217728 := by decide
  unfold IntMulOk
  intro z
  rw [Bool.and_eq_true] at z
  have z2 := z.2
  unfold Builtin.Int.intTooBig at z2
  have z3 := of_decide_eq_true z2
  rw [e] at z3
  omega
def mulD : D → D → R D
  | .int i, .int j => if mulOk i j then .ok (.int (i * j)) else .st
  | _, _ => .st
/-- a new list, so many times -/
def repD : D → D → R D
  | .lst xs, .int k => if 0 ≤ k ∧ xs.length * k.toNat ≤ sizeLine ∧ k < 2 ^ 63 ∧ immDs xs = true then .ok (.lst (List.replicate k.toNat xs).flatten) else .st
  | _, _ => .st
def fdivD : D → D → R D
  | .int i, .int j => if 0 < j ∧ j.natAbs.log2 < 9000 then .ok (.int (i / j)) else .st
  | _, _ => .st
def modD : D → D → R D
  | .int i, .int j => if 0 < j then .ok (.int (i % j)) else .st
  | _, _ => .st
def powD : D → D → R D
  | .int i, .int j => if 0 ≤ j ∧ (Builtin.Int.intBits i : Int) * j ≤ 2 ^ 27 then .ok (.int (i ^ j.toNat)) else .st
  | _, _ => .st
def shlD : D → D → R D
  | .int i, .int j => if 0 ≤ j ∧ (Builtin.Int.intBits i : Int) + j ≤ 2 ^ 27 then .ok (.int (i * 2 ^ j.toNat)) else .st
  | _, _ => .st
def shrD : D → D → R D
  | .int i, .int j => if 0 ≤ j then .ok (.int (i / 2 ^ j.toNat)) else .st
  | _, _ => .st
def andD : D → D → R D
  | .int i, .int j => .ok (.int (Builtin.bitAnd i j))
  | _, _ => .st
def orD : D → D → R D
  | .int i, .int j => .ok (.int (Builtin.bitOr i j))
  | _, _ => .st
def ltD : D → D → R D
  | .int i, .int j => .ok (.bl (decide (i < j)))
  | _, _ => .st
def leD : D → D → R D
  | .int i, .int j => .ok (.bl (decide (i ≤ j)))
  | _, _ => .st
def gtD : D → D → R D
  | .int i, .int j => .ok (.bl (decide (j < i)))
  | _, _ => .st
def geD : D → D → R D
  | .int i, .int j => .ok (.bl (decide (j ≤ i)))
  | _, _ => .st

section
variable {X : Cx}
theorem rI_opD {C : Int → Int → Prop} {w : Int → Int → V} {g : D → D → R D} (w' : Int → Int → D) (hw : ∀ i j H, Fu X.K H (w i j) (w' i j) [])
    (hg : ∀ d e z, g d e = .ok z → ∃ i j, d = .int i ∧ e = .int j ∧ C i j ∧ z = w' i j) : OpD X (rI C w) g := fun x y d e H Q z rx ry h q => by
  obtain ⟨i, j, rfl, rfl, c, rfl⟩ := hg d e z h
  cases rx
  cases ry
  exact ⟨i, j, rfl, rfl, c, q _ H [] (Same.refl H) (hw i j H) (fun _ h => nomatch h)⟩
theorem rI0_opD {w : Int → Int → V} {g : D → D → R D} (w' : Int → Int → D) (hw : ∀ i j H, Fu X.K H (w i j) (w' i j) [])
    (hg : ∀ d e z, g d e = .ok z → ∃ i j, d = .int i ∧ e = .int j ∧ z = w' i j) : OpD X (rI0 w) g := fun x y d e H Q z rx ry h q => by
  obtain ⟨i, j, rfl, rfl, rfl⟩ := hg d e z h
  cases rx
  cases ry
  exact ⟨i, j, rfl, rfl, q _ H [] (Same.refl H) (hw i j H) (fun _ h => nomatch h)⟩
theorem d_sub : OpD X (rI0 fun i j => .int (i - j)) subD := rI0_opD (fun i j => .int (i - j)) (fun i j H => .int _) fun d e z h => by
  unfold subD at h; split at h
  · cases h; exact ⟨_, _, rfl, rfl, rfl⟩
  · cases h
theorem d_and : OpD X (rI0 fun i j => .int (Builtin.bitAnd i j)) andD := rI0_opD (fun i j => .int (Builtin.bitAnd i j)) (fun i j H => .int _) fun d e z h => by
  unfold andD at h; split at h
  · cases h; exact ⟨_, _, rfl, rfl, rfl⟩
  · cases h
theorem d_or : OpD X (rI0 fun i j => .int (Builtin.bitOr i j)) orD := rI0_opD (fun i j => .int (Builtin.bitOr i j)) (fun i j H => .int _) fun d e z h => by
  unfold orD at h; split at h
  · cases h; exact ⟨_, _, rfl, rfl, rfl⟩
  · cases h
theorem d_lt : OpD X (rI0 fun i j => .bl (decide (i < j))) ltD := rI0_opD (fun i j => .bl (decide (i < j))) (fun i j H => .bl _) fun d e z h => by
  unfold ltD at h; split at h
  · cases h; exact ⟨_, _, rfl, rfl, rfl⟩
  · cases h
theorem d_le : OpD X (rI0 fun i j => .bl (decide (i ≤ j))) leD := rI0_opD (fun i j => .bl (decide (i ≤ j))) (fun i j H => .bl _) fun d e z h => by
  unfold leD at h; split at h
  · cases h; exact ⟨_, _, rfl, rfl, rfl⟩
  · cases h
theorem d_gt : OpD X (rI0 fun i j => .bl (decide (j < i))) gtD := rI0_opD (fun i j => .bl (decide (j < i))) (fun i j H => .bl _) fun d e z h => by
  unfold gtD at h; split at h
  · cases h; exact ⟨_, _, rfl, rfl, rfl⟩
  · cases h
theorem d_ge : OpD X (rI0 fun i j => .bl (decide (j ≤ i))) geD := rI0_opD (fun i j => .bl (decide (j ≤ i))) (fun i j H => .bl _) fun d e z h => by
  unfold geD at h; split at h
  · cases h; exact ⟨_, _, rfl, rfl, rfl⟩
  · cases h
theorem d_fdiv : OpD X (rI CDivW fun i j => .int (i / j)) fdivD := rI_opD (fun i j => .int (i / j)) (fun i j H => .int _) fun d e z h => by
  unfold fdivD at h; split at h
  · split at h
    · rename_i c; cases h; exact ⟨_, _, rfl, rfl, c, rfl⟩
    · cases h
  · cases h
theorem d_mod : OpD X (rI (fun _ j => 0 < j) fun i j => .int (i % j)) modD := rI_opD (fun i j => .int (i % j)) (fun i j H => .int _) fun d e z h => by
  unfold modD at h; split at h
  · split at h
    · rename_i c; cases h; exact ⟨_, _, rfl, rfl, c, rfl⟩
    · cases h
  · cases h
def CPowV (i j : Int) : Prop := 0 ≤ j ∧ (Builtin.Int.intBits i : Int) * j ≤ 2 ^ 27
theorem op_powV : OpR X (binaryOp .Pow) (rI CPowV fun i j => .int (i ^ j.toNat)) := opI fun _ _ _ _ _ _ _ hc q => pow_int hc.1 hc.2 q
theorem d_pow : OpD X (rI CPowV fun i j => .int (i ^ j.toNat)) powD := rI_opD (fun i j => .int (i ^ j.toNat)) (fun i j H => .int _) fun d e z h => by
  unfold powD at h; split at h
  · split at h
    · rename_i c; cases h; exact ⟨_, _, rfl, rfl, c, rfl⟩
    · cases h
  · cases h
theorem d_shl : OpD X (rI CShl fun i j => .int (i * 2 ^ j.toNat)) shlD := rI_opD (fun i j => .int (i * 2 ^ j.toNat)) (fun i j H => .int _) fun d e z h => by
  unfold shlD at h; split at h
  · split at h
    · rename_i c; cases h; exact ⟨_, _, rfl, rfl, c, rfl⟩
    · cases h
  · cases h
theorem d_shr : OpD X (rI (fun _ j => 0 ≤ j) fun i j => .int (i / 2 ^ j.toNat)) shrD := rI_opD (fun i j => .int (i / 2 ^ j.toNat)) (fun i j H => .int _) fun d e z h => by
  unfold shrD at h; split at h
  · split at h
    · rename_i c; cases h; exact ⟨_, _, rfl, rfl, c, rfl⟩
    · cases h
  · cases h

def rAddA (K : PySem.W.Frag) : R2 := fun x y H Q => (rI0 (fun i j => .int (i + j)) x y H Q) ∨ (∃ i j, x = .str i ∧ y = .str j ∧ i.length + j.length ≤ sizeLine ∧ Q (.str (i ++ j)) H) ∨ rCatR K x y H Q ∨ rCatA K x y H Q
theorem op_addA : OpR X (binaryOp .Add) (rAddA X.K) := op_add.or (op_add_str.or (op_catR.or op_catA))
theorem d_add : OpD X (rAddA X.K) addD := fun x y d e H Q z rx ry h q => by
  unfold addD at h
  split at h
  · cases h; cases rx; cases ry
    exact .inl ⟨_, _, rfl, rfl, q _ H [] (Same.refl H) (.int _) (fun _ h => nomatch h)⟩
  · split at h
    · rename_i c
      cases h; cases rx; cases ry
      exact .inr (.inl ⟨_, _, rfl, rfl, c, q _ H [] (Same.refl H) (.str _) (fun _ h => nomatch h)⟩)
    · cases h
  · split at h
    · rename_i c
      cases h
      cases rx with
      | lst h1 r1 =>
        cases ry with
        | lst h2 r2 =>
          refine .inr (.inr (.inl ⟨_, _, _, _, rfl, rfl, h1, h2, by rw [r1.length, r2.length]; exact c.1, fun p hp => ?_⟩))
          exact q _ _ [p] (new_same hp) (fu_new_lst hp (r1.app r2) (immDs_app c.2.1 c.2.2)) fun a ha => by
            rw [List.mem_singleton.mp ha]; exact hp
    · cases h
  · split at h
    · rename_i c
      cases h
      cases rx with
      | tup h1 r1 =>
        cases ry with
        | tup h2 r2 =>
          refine .inr (.inr (.inr ⟨_, _, _, _, rfl, rfl, h1, h2, by rw [r1.length, r2.length]; exact c.1, fun e => ?_, fun _ e => ?_, fun _ _ p hp => ?_⟩))
          · subst e
            cases r1
            exact q _ H [] (Same.refl H) (.tup h2 (r2.fu c.2.2)) (fun _ h => nomatch h)
          · subst e
            cases r2
            rw [List.append_nil] at q
            exact q _ H [] (Same.refl H) (.tup h1 (r1.fu c.2.1)) (fun _ h => nomatch h)
          · exact q _ _ [] (new_same hp) (fu_new_tup hp (r1.app r2) (immDs_app c.2.1 c.2.2)) (fun _ h => nomatch h)
    · cases h
  · cases h
theorem op_mulI : OpR X (binaryOp .Mult) (rI IntMulOk fun i j => .int (i * j)) := opI fun _ _ _ _ _ _ _ hc q => mul_int q hc
theorem d_mul : OpD X (rI IntMulOk fun i j => .int (i * j)) mulD := rI_opD (fun i j => .int (i * j)) (fun i j H => .int _) fun d e z h => by
  unfold mulD at h; split at h
  · split at h
    · rename_i c; cases h; exact ⟨_, _, rfl, rfl, c.ok, rfl⟩
    · cases h
  · cases h
theorem nx_rep : NoEx2 repD := fun d e c h => by unfold repD at h; split at h <;> first | cases h | (split at h <;> cases h)
/-- [..] * k -/
theorem vg_rep {W : WX} {a b : Expr} {f g : Env → R D} {pos : Pos} (ha : VG X W a f) (hb : VE X W b g) : VG X W (.BinOp a .Mult b pos) (op2 repD f g) := ⟨peW (pe_op op_rep ha.pe hb.pe) fun σ H Q ⟨ρ, re, o⟩ => ⟨ρ, re, (Out.bind o).mono fun d _ q v H1 A s1 f1 n1 => ⟨ρ, re.mono s1, ((Out.bind q).up s1).mono fun e _ q w H2 s2 r2 => by
  unfold repD at q
  split at q
  · split at q
    · rename_i c
      cases r2
      cases f1 with
      | lst h1 r1 n =>
        refine ⟨_, _, _, rfl, rfl, s2 _ _ h1, by omega, c.2.2.1, by rw [r1.length]; exact c.2.1, fun p hp => ?_⟩
        exact q _ _ [p] ((s1.trans s2).trans (new_same hp)) (fu_new_lst hp ((r1.rd.mono s2).flat _) (immDs_flat c.2.2.2 _)) fun a ha => by
          rw [List.mem_singleton.mp ha]; exact (s1.trans s2).free hp
    · exact q.elim
  · exact q.elim⟩⟩⟩
end
/-- none of these raises -/
theorem nx_add : NoEx2 addD := fun d e c h => by unfold addD at h; split at h <;> first | cases h | (split at h <;> cases h)
theorem nx_sub : NoEx2 subD := fun d e c h => by unfold subD at h; split at h <;> cases h
theorem nx_mul : NoEx2 mulD := fun d e c h => by unfold mulD at h; split at h <;> first | cases h | (split at h <;> cases h)
theorem nx_fdiv : NoEx2 fdivD := fun d e c h => by unfold fdivD at h; split at h <;> first | cases h | (split at h <;> cases h)
theorem nx_mod : NoEx2 modD := fun d e c h => by unfold modD at h; split at h <;> first | cases h | (split at h <;> cases h)
theorem nx_pow : NoEx2 powD := fun d e c h => by unfold powD at h; split at h <;> first | cases h | (split at h <;> cases h)
theorem nx_shl : NoEx2 shlD := fun d e c h => by unfold shlD at h; split at h <;> first | cases h | (split at h <;> cases h)
theorem nx_shr : NoEx2 shrD := fun d e c h => by unfold shrD at h; split at h <;> first | cases h | (split at h <;> cases h)
theorem nx_and : NoEx2 andD := fun d e c h => by unfold andD at h; split at h <;> cases h
theorem nx_or : NoEx2 orD := fun d e c h => by unfold orD at h; split at h <;> cases h
theorem nx_lt : NoEx2 ltD := fun d e c h => by unfold ltD at h; split at h <;> cases h
theorem nx_le : NoEx2 leD := fun d e c h => by unfold leD at h; split at h <;> cases h
theorem nx_gt : NoEx2 gtD := fun d e c h => by unfold gtD at h; split at h <;> cases h
theorem nx_ge : NoEx2 geD := fun d e c h => by unfold geD at h; split at h <;> cases h
end Vs

namespace Vs
open PySem PySem.Spec PyProof.Rows L2

/-! ### equality -/
mutual
def pyD : D → PyData
  | .non => .none
  | .bl b => .bool b
  | .int i => .int i
  | .str x => .str x
  | .lst xs => .list (pyDs xs)
  | .tup xs => .tuple (pyDs xs)
  | .dic _ _ => .dict []
  | .fn _ => .dict []
def pyDs : List D → List PyData
  | [] => []
  | x :: xs => pyD x :: pyDs xs
end
section
variable {K : PySem.W.Frag} {H : Hp}
mutual
theorem Rd.dp : ∀ {v : V} {d : D}, Rd K H v d → (pyD d).canLay0 = true → Dp K H v (pyD d)
  | _, _, .non, _ => .non
  | _, _, .bl b, _ => .bl b
  | _, _, .int i, _ => .int i
  | _, _, .str x, _ => .str x
  | _, _, .fn a, m => by rw [pyD] at m; cases m
  | _, _, .lst h r, m => by
    rw [pyD] at m ⊢
    exact .lst h (Rds.dps r m)
  | _, _, .tup h r, m => by
    rw [pyD] at m ⊢
    exact .tup h (Rds.dps r m)
  | _, _, .dk _ _ _, m => by rw [pyD] at m; cases m
  | _, _, .dt _ _ _, m => by rw [pyD] at m; cases m
theorem Rds.dps : ∀ {vs : List V} {ds : List D}, Rds K H vs ds → PyData.canLayAll0 (pyDs ds) = true → DpAll K H vs (pyDs ds)
  | _, _, .nil, _ => .nil
  | _, _, .cons h r, m => by
    rw [pyDs] at m ⊢
    have m' : (pyD _).canLay0 = true ∧ PyData.canLayAll0 (pyDs _) = true := Bool.and_eq_true_iff.mp m
    exact .cons (Rd.dp h m'.1) (Rds.dps r m'.2)
end
end
def eqB (d e : D) : Bool := PyData.eqv (pyD d) (pyD e)
def eqD (d e : D) : R D := if SeqAt.shaped (pyD d) = true ∧ SeqAt.shaped (pyD e) = true then .ok (.bl (eqB d e)) else .st
def neD (d e : D) : R D := if SeqAt.shaped (pyD d) = true ∧ SeqAt.shaped (pyD e) = true then .ok (.bl (!eqB d e)) else .st
def isNonB : D → Bool
  | .non => true
  | _ => false
def isD (d e : D) : R D := match e with
  | .non => .ok (.bl (isNonB d))
  | _ => .st
def isNotD (d e : D) : R D := match e with
  | .non => .ok (.bl (!isNonB d))
  | _ => .st
theorem nx_eq : NoEx2 eqD := fun d e c h => by unfold eqD at h; split at h <;> cases h
theorem nx_ne : NoEx2 neD := fun d e c h => by unfold neD at h; split at h <;> cases h
theorem nx_is : NoEx2 isD := fun d e c h => by unfold isD at h; split at h <;> cases h
theorem nx_isNot : NoEx2 isNotD := fun d e c h => by unfold isNotD at h; split at h <;> cases h
def rIsNo : R2 := fun x y H Q => y = .non ∧ Q (.bl (decide (x = .non))) H
def rIsNotNo : R2 := fun x y H Q => y = .non ∧ Q (.bl (!decide (x = .non))) H
theorem isNonB_eq {K : PySem.W.Frag} {H : Hp} {v : V} {d : D} (r : Rd K H v d) : decide (v = .non) = isNonB d := by
  cases r <;> rfl
section
variable {X : Cx}
theorem d_eq : OpD X (rEqD X.K) eqD := fun x y d e H Q z rx ry h q => by
  unfold eqD at h
  split at h
  · rename_i c
    cases h
    exact ⟨_, _, rx.dp (SeqAt.canLay_of_shaped c.1), ry.dp (SeqAt.canLay_of_shaped c.2), c.1, c.2, q _ H [] (Same.refl H) (.bl _) (fun _ h => nomatch h)⟩
  · cases h
theorem d_ne : OpD X (rNeD X.K) neD := fun x y d e H Q z rx ry h q => by
  unfold neD at h
  split at h
  · rename_i c
    cases h
    exact ⟨_, _, rx.dp (SeqAt.canLay_of_shaped c.1), ry.dp (SeqAt.canLay_of_shaped c.2), c.1, c.2, q _ H [] (Same.refl H) (.bl _) (fun _ h => nomatch h)⟩
  · cases h
theorem d_is : OpD X rIsNo isD := fun x y d e H Q z rx ry h q => by
  unfold isD at h
  split at h
  · cases h
    cases ry
    refine ⟨rfl, ?_⟩
    rw [isNonB_eq rx]
    exact q _ H [] (Same.refl H) (.bl _) (fun _ h => nomatch h)
  · cases h
theorem d_isNot : OpD X rIsNotNo isNotD := fun x y d e H Q z rx ry h q => by
  unfold isNotD at h
  split at h
  · cases h
    cases ry
    refine ⟨rfl, ?_⟩
    rw [isNonB_eq rx]
    exact q _ H [] (Same.refl H) (.bl _) (fun _ h => nomatch h)
  · cases h
end

section
variable {X : Cx} {W : WX} {e a b c : Expr} {es : List Expr} {f g h : Env → R D} {fs : Env → R (List D)} {pos : Pos}

/-! ### -x -/
def negD : D → R D
  | .int i => .ok (.int (-i))
  | _ => .st
def negE (f : Env → R D) (ρ : Env) : R D := (f ρ).bind negD
theorem vg_neg (ha : VE X W a f) : VG X W (.UnaryOp .USub a pos) (negE f) := ⟨peW (pe_un un_neg ha.pe) fun σ H Q ⟨ρ, re, o⟩ => ⟨ρ, re, (Out.bind o).mono fun d _ q v H1 s1 r1 => by
  unfold negD at q
  split at q
  · cases r1
    exact ⟨_, rfl, q _ H1 [] s1 (.int _) (fun _ h => nomatch h)⟩
  · exact q.elim⟩⟩

/-! ### an item -/
def ixD : D → D → R D
  | .lst xs, .int i => match atI xs i with | some d => .ok d | none => .st
  | .tup xs, .int i => match atI xs i with | some d => .ok d | none => .st
  | .str z, .int i => if z.length ≤ sizeLine then (match atI z.cps.toList i with | some c => .ok (.str ⟨#[c]⟩) | none => .st) else .st
  | _, _ => .st
theorem atI_rd {K : PySem.W.Frag} {H : Hp} {vs : List V} {ds : List D} (r : Rds K H vs ds) {i : Int} {d : D} (h : atI ds i = some d) : ∃ v, atI vs i = some v ∧ Rd K H v d := by
  unfold atI at h ⊢
  rw [r.length]
  cases e : ixN ds.length i with
  | none => rw [e] at h; cases h
  | some j => rw [e] at h; exact r.get h
theorem ve_ix (ha : VE X W a f) (hb : VE X W b g) (hs : PlainIx b) : VE X W (.Subscript a b pos) (op2 ixD f g) :=
  ⟨peW (pe_ix ix_seq ha.pe hb.pe hs) fun σ H Q ⟨ρ, re, o⟩ => ⟨ρ, re, (Out.bind o).mono fun d _ q v H1 s1 r1 => ⟨ρ, re.mono s1, ((Out.bind q).up s1).mono fun e _ q w H2 s2 r2 => by
    unfold ixD at q
    split at q
    · split at q
      · rename_i hx
        cases r2
        cases r1 with
        | lst h1 r1 =>
          obtain ⟨u, hu, ru⟩ := atI_rd r1 hx
          exact .inl ⟨_, _, _, u, rfl, rfl, s2.seq h1, hu, q u H2 (s1.trans s2) (ru.mono s2)⟩
      · exact q.elim
    · split at q
      · rename_i hx
        cases r2
        cases r1 with
        | tup h1 r1 =>
          obtain ⟨u, hu, ru⟩ := atI_rd r1 hx
          exact .inr (.inl ⟨_, _, _, u, rfl, rfl, seqT s2 h1, hu, q u H2 (s1.trans s2) (ru.mono s2)⟩)
      · exact q.elim
    · split at q
      · rename_i hz
        split at q
        · rename_i hx
          cases r2
          cases r1
          exact .inr (.inr ⟨_, _, _, rfl, rfl, hz, hx, q _ H2 (s1.trans s2) (.str _)⟩)
        · exact q.elim
      · exact q.elim
    · exact q.elim⟩⟩⟩

/-! ### slices -/
def cutL {α : Type} (xs : List α) (lo hi : Option Int) : List α := (xs.drop (HT.sIx xs.length 0 lo)).take (HT.sIx xs.length xs.length hi - HT.sIx xs.length 0 lo)
theorem Rds.take {K : PySem.W.Frag} {H : Hp} : ∀ {vs : List V} {ds : List D} (n : Nat), Rds K H vs ds → Rds K H (vs.take n) (ds.take n)
  | _, _, 0, _ => .nil
  | _, _, _ + 1, .nil => .nil
  | _, _, n + 1, .cons h r => .cons h (Rds.take n r)
theorem Rds.drop {K : PySem.W.Frag} {H : Hp} : ∀ {vs : List V} {ds : List D} (n : Nat), Rds K H vs ds → Rds K H (vs.drop n) (ds.drop n)
  | _, _, 0, r => r
  | _, _, _ + 1, .nil => .nil
  | _, _, n + 1, .cons h r => Rds.drop n r
theorem Rds.cut {K : PySem.W.Frag} {H : Hp} {vs : List V} {ds : List D} (r : Rds K H vs ds) (lo hi : Option Int) : Rds K H (cutV vs lo hi) (cutL ds lo hi) := by
  unfold cutV cutL
  rw [r.length]
  exact (r.drop _).take _
def slD (d : D) (lo hi : Option Int) : R D := match d with
  | .lst xs => .ok (.lst (cutL xs lo hi))
  | .str z => if z.length ≤ sizeLine then .ok (.str (cutS z lo hi)) else .st
  | _ => .st
structure VO (X : Cx) (W : WX) (e : Option Expr) (f : Env → R (Option Int)) : Prop where
  po : PO X e (fun σ H Q => ∃ ρ, REnv X.K ρ σ H ∧ Out X.mg W σ H (f ρ) fun o => ∀ H', Same H H' → Q o H')
theorem poW {X : Cx} {e : Option Expr} {t u : TO} (h : PO X e t) (q : ∀ σ H Q, u σ H Q → t σ H Q) : PO X e u := ⟨fun pins s σ H Q I x => h.run pins s σ H Q I (q σ H Q x)⟩
def noO (_ : Env) : R (Option Int) := .ok none
def someO (f : Env → R D) (ρ : Env) : R (Option Int) := (f ρ).bind fun d => match d with | .int i => .ok (some i) | _ => .st
theorem vo_none : VO X W none noO := ⟨poW po_none fun σ H Q ⟨ρ, re, o⟩ => o H (Same.refl H)⟩
theorem vo_some (ha : VE X W a f) : VO X W (some a) (someO f) := ⟨poW (po_some ha.pe) fun σ H Q ⟨ρ, re, o⟩ => ⟨ρ, re, (Out.bind o).mono fun d _ q v H1 s1 r1 => by
  cases r1 with
  | int i => exact ⟨i, rfl, q H1 s1⟩
  | _ => exact q.elim⟩⟩
def slE (f : Env → R D) (lo hi : Env → R (Option Int)) (ρ : Env) : R D := (f ρ).bind fun d => (lo ρ).bind fun l => (hi ρ).bind fun u => slD d l u
def rSlA (K : PySem.W.Frag) : V → Option Int → Option Int → Hp → VK → Prop := fun x lo hi H Q => rSlL K x lo hi H Q ∨ rSlS x lo hi H Q
theorem sl_any : SlR X (rSlA X.K) := sl_list.or sl_str
theorem ve_sl {lo hi : Option Expr} {l u : Env → R (Option Int)} {p2 : Pos} (ha : VE X W a f) (hl : VO X W lo l) (hu : VO X W hi u) : VE X W (.Subscript a (.Slice lo hi none p2) pos) (slE f l u) :=
  ⟨peW (pe_slice sl_any ha.pe hl.po hu.po) fun σ H Q ⟨ρ, re, o⟩ => ⟨ρ, re, (Out.bind o).mono fun d _ q v H1 s1 r1 => ⟨ρ, re.mono s1, ((Out.bind q).up s1).mono fun l _ q H2 s2 => ⟨ρ, re.mono (s1.trans s2), ((Out.bind q).up (s1.trans s2)).mono fun u _ q H3 s3 => by
    unfold slD at q
    split at q
    · cases r1 with
      | lst h1 r1 =>
        refine .inl ⟨_, _, rfl, (s2.trans s3).seq h1, fun p hp => ?_⟩
        exact q _ _ ((s1.trans (s2.trans s3)).trans (new_same hp)) (.lst (SqL.of upd_same) ((r1.mono ((s2.trans s3).trans (new_same hp))).cut _ _))
    · split at q
      · rename_i hz
        cases r1
        exact .inr ⟨_, rfl, hz, q _ H3 (s1.trans (s2.trans s3)) (.str _)⟩
      · exact q.elim
    · exact q.elim⟩⟩⟩⟩
/-- a slice of what is no list within: new -/
def immL : D → R D
  | .lst xs => if immDs xs = true then .ok (.lst xs) else .st
  | d => if immD d = true then .ok d else .st
def slG (f : Env → R D) (lo hi : Env → R (Option Int)) (ρ : Env) : R D := (slE f lo hi ρ).bind immL
theorem vg_sl {lo hi : Option Expr} {l u : Env → R (Option Int)} {p2 : Pos} (ha : VE X W a f) (hl : VO X W lo l) (hu : VO X W hi u) : VG X W (.Subscript a (.Slice lo hi none p2) pos) (slG f l u) :=
  ⟨peW (pe_slice sl_any ha.pe hl.po hu.po) fun σ H Q ⟨ρ, re, o⟩ => ⟨ρ, re, (Out.bind (show Out X.mg W σ H (slE f l u ρ) _ from Out.bind o)).mono fun d _ q v H1 s1 r1 => ⟨ρ, re.mono s1, ((Out.bind q).up s1).mono fun l _ q H2 s2 => ⟨ρ, re.mono (s1.trans s2), ((Out.bind q).up (s1.trans s2)).mono fun u _ q H3 s3 => by
    unfold slD at q
    split at q
    · cases r1 with
      | lst h1 r1 =>
        refine .inl ⟨_, _, rfl, (s2.trans s3).seq h1, fun p hp => ?_⟩
        have r4 := (r1.mono (s2.trans s3)).cut l u
        generalize cutL _ l u = ys at q r4
        have q : Out X.mg W σ H (if immDs ys = true then R.ok (D.lst ys) else R.st) _ := q
        by_cases m : immDs ys = true
        · rw [if_pos m] at q
          exact q _ _ [p] ((s1.trans (s2.trans s3)).trans (new_same hp)) (fu_new_lst hp r4 m) fun a ha => by
            rw [List.mem_singleton.mp ha]; exact (s1.trans (s2.trans s3)).free hp
        · rw [if_neg m] at q
          exact q.elim
    · split at q
      · rename_i hz
        cases r1
        have q : Out X.mg W σ H (R.ok (D.str (cutS _ l u))) _ := q
        exact .inr ⟨_, rfl, hz, q _ H3 [] (s1.trans (s2.trans s3)) (.str _) (fun _ h => nomatch h)⟩
      · exact q.elim
    · exact q.elim⟩⟩⟩⟩

/-! ### displays -/
def LenA (f : Env → R (List D)) (n : Nat) : Prop := ∀ ρ ds, f ρ = .ok ds → ds.length = n
theorem len_nil : LenA nilA 0 := fun ρ ds h => by cases h; rfl
theorem len_cons {n : Nat} (h : LenA fs n) : LenA (consA f fs) (n + 1) := fun ρ ds e => by
  unfold consA at e
  cases h1 : f ρ with
  | ok d =>
    rw [h1] at e
    cases h2 : fs ρ with
    | ok es =>
      rw [R.bind_ok, h2, R.bind_ok] at e
      cases e
      rw [List.length_cons, h ρ es h2]
    | st => rw [R.bind_ok, h2] at e; cases e
    | ex c => rw [R.bind_ok, h2] at e; cases e
  | st => rw [h1] at e; cases e
  | ex c => rw [h1] at e; cases e
def lstE (fs : Env → R (List D)) (ρ : Env) : R D := (fs ρ).bind fun ds => .ok (.lst ds)
def tupE (fs : Env → R (List D)) (ρ : Env) : R D := (fs ρ).bind fun ds => .ok (.tup ds)
theorem le_line {n m : Nat} (h : m = n) (k : n ≤ 1000) : m ≤ sizeLine := by rw [h]; exact Nat.le_trans k (by decide)
theorem ve_tup {n : Nat} {x1} (ha : VA X W es fs) (hl : LenA fs n) (hn : n ≤ 1000 := by decide) : VE X W (.Tuple es x1 pos) (tupE fs) := ⟨peW (pe_tup ha.pa) fun σ H Q ⟨ρ, re, o⟩ => ⟨ρ, re, (Out.bind o).mono fun ds hd q vs H1 s1 r1 =>
  ⟨le_line (r1.length.trans (hl ρ ds hd)) hn, fun p hp => q _ _ (s1.trans (new_same hp)) (.tup (SqT.of upd_same) (r1.mono (new_same hp)))⟩⟩⟩
theorem vg_tup {n : Nat} {x1} (ha : VB X W es fs) (hl : LenA fs n) (hn : n ≤ 1000 := by decide) : VG X W (.Tuple es x1 pos) (tupE fs) := ⟨peW (pe_tup ha.pa) fun σ H Q ⟨ρ, re, o⟩ => ⟨ρ, re, (Out.bind o).mono fun ds hd q vs H1 A s1 r1 n1 =>
  ⟨le_line (r1.length.trans (hl ρ ds hd)) hn, fun p hp => q _ _ A (s1.trans (new_same hp)) (.tup (SqT.of upd_same) (r1.same (new_same hp))) n1⟩⟩⟩
theorem ve_lst {n : Nat} (ha : VA X W es fs) (hl : LenA fs n) (hn : n ≤ 1000 := by decide) : VE X W (.List es pos) (lstE fs) := ⟨peW (pe_lst ha.pa) fun σ H Q ⟨ρ, re, o⟩ => ⟨ρ, re, (Out.bind o).mono fun ds hd q vs H1 s1 r1 =>
  ⟨le_line (r1.length.trans (hl ρ ds hd)) hn, fun p hp => q _ _ (s1.trans (new_same hp)) (.lst (SqL.of upd_same) (r1.mono (new_same hp)))⟩⟩⟩
theorem vg_lst {n : Nat} (ha : VB X W es fs) (hl : LenA fs n) (hn : n ≤ 1000 := by decide) : VG X W (.List es pos) (lstE fs) := ⟨peW (pe_lst ha.pa) fun σ H Q ⟨ρ, re, o⟩ => ⟨ρ, re, (Out.bind o).mono fun ds hd q vs H1 A s1 r1 n1 =>
  ⟨le_line (r1.length.trans (hl ρ ds hd)) hn, fun p hp => q _ _ (p :: A) (s1.trans (new_same hp)) (.lst upd_same (r1.same (new_same hp)) fun m => by obtain ⟨o, ho⟩ := r1.there p m; rw [ho] at hp; cases hp)
    fun a m => (List.mem_cons.mp m).elim (fun z => by rw [z]; exact s1.free hp) fun z => n1 a z⟩⟩⟩

/-! ### truths -/
def boolR (f : Env → R D) (ρ : Env) : R Bool := (f ρ).bind fun d => match d with | .bl b => .ok b | _ => .st
def andE (f g : Env → R D) (ρ : Env) : R D := (boolR f ρ).bind fun b => if b = true then g ρ else .ok (.bl false)
def orE (f g : Env → R D) (ρ : Env) : R D := (boolR f ρ).bind fun b => if b = true then .ok (.bl true) else g ρ
def notE (f : Env → R D) (ρ : Env) : R D := (boolR f ρ).bind fun b => .ok (.bl (!b))
theorem boolR_out {σ : L2.St} {H : Hp} {ρ : Env} {P : Bool → Prop} (o : Out X.mg W σ H (boolR f ρ) P) : Out X.mg W σ H (f ρ) fun d => ∃ b, d = .bl b ∧ P b := by
  unfold boolR at o
  refine (Out.bind o).mono fun d _ q => ?_
  cases d with
  | bl b => exact ⟨b, rfl, q⟩
  | _ => exact q.elim
theorem vg_one {op} (ha : VG X W a f) : VG X W (.BoolOp op [a] pos) f := ⟨pe_one ha.pe⟩
theorem vg_and {rest : List Expr} (ha : VE X W a f) (hb : VG X W (.BoolOp .And (b :: rest) pos) g) : VG X W (.BoolOp .And (a :: b :: rest) pos) (andE f g) :=
  ⟨peW (pe_and ha.pe hb.pe) fun σ H Q ⟨ρ, re, o⟩ => ⟨ρ, re, (boolR_out (Out.bind o)).mono fun d _ ⟨k, e, q⟩ v H1 s1 r1 => by
    subst e
    cases r1
    refine ⟨k, rfl, ?_⟩
    cases k with
    | true =>
      rw [if_pos rfl] at q ⊢
      exact ⟨ρ, re.mono s1, (q.up s1).mono fun d _ q v H2 A s2 f2 n2 => q v H2 A (s1.trans s2) f2 fun a m => s1.free (n2 a m)⟩
    | false =>
      rw [if_neg Bool.false_ne_true] at q ⊢
      exact q _ H1 [] s1 (.bl _) (fun _ h => nomatch h)⟩⟩
theorem vg_or {rest : List Expr} (ha : VE X W a f) (hb : VG X W (.BoolOp .Or (b :: rest) pos) g) : VG X W (.BoolOp .Or (a :: b :: rest) pos) (orE f g) :=
  ⟨peW (pe_or ha.pe hb.pe) fun σ H Q ⟨ρ, re, o⟩ => ⟨ρ, re, (boolR_out (Out.bind o)).mono fun d _ ⟨k, e, q⟩ v H1 s1 r1 => by
    subst e
    cases r1
    refine ⟨k, rfl, ?_⟩
    cases k with
    | false =>
      rw [if_neg Bool.false_ne_true] at q ⊢
      exact ⟨ρ, re.mono s1, (q.up s1).mono fun d _ q v H2 A s2 f2 n2 => q v H2 A (s1.trans s2) f2 fun a m => s1.free (n2 a m)⟩
    | true =>
      rw [if_pos rfl] at q ⊢
      exact q _ H1 [] s1 (.bl _) (fun _ h => nomatch h)⟩⟩
theorem vg_not (ha : VE X W a f) : VG X W (.UnaryOp .Not a pos) (notE f) :=
  ⟨peW (pe_not ha.pe) fun σ H Q ⟨ρ, re, o⟩ => ⟨ρ, re, (boolR_out (Out.bind o)).mono fun d _ ⟨k, e, q⟩ v H1 s1 r1 => by
    subst e
    cases r1
    exact ⟨k, rfl, q _ H1 [] s1 (.bl _) (fun _ h => nomatch h)⟩⟩⟩

/-! ### tests -/
def andT (f g : Env → R Bool) (ρ : Env) : R Bool := (f ρ).bind fun b => if b = true then g ρ else .ok false
def orT (f g : Env → R Bool) (ρ : Env) : R Bool := (f ρ).bind fun b => if b = true then .ok true else g ρ
def notT (f : Env → R Bool) (ρ : Env) : R Bool := (f ρ).bind fun b => .ok (!b)
theorem vt_val (ha : VE X W a f) (he : ∀ whole, isTrue a X.env whole = (do let v ← whole; standAt a.pos; holding [v] (truthy v)) := by intro _; rfl) : VT X W a (boolR f) :=
  ⟨ptW (pt_val ha.pe he) fun σ H Q ⟨ρ, re, o⟩ => ⟨ρ, re, (boolR_out o).mono fun d _ ⟨k, e, q⟩ v H1 s1 r1 => by
    subst e
    cases r1
    exact ⟨k, rfl, q H1 s1⟩⟩⟩
theorem tTest_of {r : R2} {gd : D → D → R D} (k : OpD X r gd) (n : NoEx2 gd) {σ : L2.St} {H : Hp} {Q : Bool → Hp → Prop} (hh : tT X.K X.mg W (boolR (op2 gd f g)) σ H Q) : tTest (tOp r (tF X.K X.mg W f) (tF X.K X.mg W g)) σ H Q := by
  obtain ⟨ρ, re, o⟩ := hh
  refine tOp_of k n ⟨ρ, re, (boolR_out o).mono fun d _ ⟨k, e, q⟩ v H1 A s1 f1 n1 => ?_⟩
  subst e
  cases f1
  exact ⟨k, rfl, q H1 s1⟩
theorem vt_cmp {op : CmpOp} {r : R2} {gd : D → D → R D} (ho : OpR X (compareOp op) r) (k : OpD X r gd) (n : NoEx2 gd) (ha : VE X W a f) (hb : VE X W b g) (hm : behindInMarks op b = false) : VT X W (.Compare a [op] [b] pos) (boolR (op2 gd f g)) :=
  ⟨ptW (pt_cmpR ho ha.pe hb.pe hm) fun σ H Q q => tTest_of k n q⟩
theorem VW.vt {f : Env → R Bool} (h : VW X W a f) : VT X W a f := ⟨h.pw.pt⟩
theorem vw_and1 {f : Env → R Bool} (ha : VT X W a f) : VW X W (.BoolOp .And [a] pos) f := ⟨pw_and1 ha.pt⟩
theorem vw_or1 {f : Env → R Bool} (ha : VT X W a f) : VW X W (.BoolOp .Or [a] pos) f := ⟨pw_or1 ha.pt⟩
theorem vw_and {f g : Env → R Bool} {rest : List Expr} (ha : VT X W a f) (hb : VW X W (.BoolOp .And (b :: rest) pos) g) : VW X W (.BoolOp .And (a :: b :: rest) pos) (andT f g) :=
  ⟨pwW (pw_and ha.pt hb.pw) fun σ H Q ⟨ρ, re, o⟩ => ⟨ρ, re, (Out.bind o).mono fun k _ q H1 s1 => by
    cases k with
    | true => exact ⟨ρ, re.mono s1, ((show Out X.mg W σ H (g ρ) _ from q).up s1).mono fun k _ q H2 s2 => q H2 (s1.trans s2)⟩
    | false => exact q H1 s1⟩⟩
theorem vw_or {f g : Env → R Bool} {rest : List Expr} (ha : VT X W a f) (hb : VW X W (.BoolOp .Or (b :: rest) pos) g) : VW X W (.BoolOp .Or (a :: b :: rest) pos) (orT f g) :=
  ⟨pwW (pw_or ha.pt hb.pw) fun σ H Q ⟨ρ, re, o⟩ => ⟨ρ, re, (Out.bind o).mono fun k _ q H1 s1 => by
    cases k with
    | true => exact q H1 s1
    | false => exact ⟨ρ, re.mono s1, ((show Out X.mg W σ H (g ρ) _ from q).up s1).mono fun k _ q H2 s2 => q H2 (s1.trans s2)⟩⟩⟩
theorem vt_not {f : Env → R Bool} (ha : VT X W a f) : VT X W (.UnaryOp .Not a pos) (notT f) :=
  ⟨ptW (pt_not ha.pt) fun σ H Q ⟨ρ, re, o⟩ => ⟨ρ, re, (Out.bind o).mono fun k _ q H1 s1 => q H1 s1⟩⟩
/-! ### a if t else b -/
def ifE (t : Env → R Bool) (f g : Env → R D) (ρ : Env) : R D := (t ρ).bind fun b => if b = true then f ρ else g ρ
theorem ve_if {t : Env → R Bool} (hc : VT X W c t) (ha : VE X W a f) (hb : VE X W b g) : VE X W (.IfExp c a b pos) (ifE t f g) :=
  ⟨peW (pe_ifExp hc.pt ha.pe hb.pe) fun σ H Q ⟨ρ, re, o⟩ => ⟨ρ, re, (Out.bind o).mono fun k _ q H1 s1 => by
    cases k with
    | true => exact ⟨ρ, re.mono s1, ((show Out X.mg W σ H (f ρ) _ from q).up s1).mono fun d _ q v H2 s2 r2 => q v H2 (s1.trans s2) r2⟩
    | false => exact ⟨ρ, re.mono s1, ((show Out X.mg W σ H (g ρ) _ from q).up s1).mono fun d _ q v H2 s2 r2 => q v H2 (s1.trans s2) r2⟩⟩⟩

/-! ### a < b < c -/
def chD (gd gd' : D → D → R D) (f g h : Env → R D) (ρ : Env) : R D := (f ρ).bind fun x => (g ρ).bind fun y => (gd x y).bind fun z => match z with
  | .bl true => (h ρ).bind fun w => gd' y w
  | .bl false => .ok (.bl false)
  | _ => .st
theorem tCh_of {r r' : R2} {gd gd' : D → D → R D} (k : OpD X r gd) (n : NoEx2 gd) (k' : OpD X r' gd') (n' : NoEx2 gd') {σ : L2.St} {H : Hp} {Q : VK} (hh : tG X.K X.mg W (chD gd gd' f g h) σ H Q) :
    tChain r r' (tF X.K X.mg W f) (tF X.K X.mg W g) (tF X.K X.mg W h) σ H Q := by
  obtain ⟨ρ, re, o⟩ := hh
  refine ⟨ρ, re, (Out.bind o).mono fun x _ q v H1 s1 r1 => ?_⟩
  refine ⟨ρ, re.mono s1, ((Out.bind q).up s1).mono fun y _ q w H2 s2 r2 => ?_⟩
  have q := Out.bind q
  cases hz : gd x y with
  | ok z =>
    rw [hz] at q
    have q : Out X.mg W σ H (match z with | .bl true => (h ρ).bind fun w => gd' y w | .bl false => .ok (.bl false) | _ => .st) _ := q
    refine k v w x y H2 _ z (r1.mono s2) r2 hz fun u H3 A s3 f3 n3 => ?_
    cases f3 with
    | bl b =>
      refine ⟨b, rfl, ?_⟩
      cases b with
      | true =>
        refine ⟨ρ, re.mono ((s1.trans s2).trans s3), ((Out.bind q).up ((s1.trans s2).trans s3)).mono fun e _ q t H4 s4 r4 => ?_⟩
        cases hz' : gd' y e with
        | ok z' =>
          rw [hz'] at q
          exact k' w t y e H4 Q z' (r2.mono (s3.trans s4)) r4 hz' fun u H5 A s5 f5 n5 => q u H5 A ((((s1.trans s2).trans s3).trans s4).trans s5) f5 fun a ha => (((s1.trans s2).trans s3).trans s4).free (n5 a ha)
        | ex c => exact absurd hz' (n' y e c)
        | st => rw [hz'] at q; exact q.elim
      | false => exact q _ H3 [] ((s1.trans s2).trans s3) (.bl _) (fun _ h => nomatch h)
    | _ => exact q.elim
  | ex c => exact absurd hz (n x y c)
  | st => rw [hz] at q; exact q.elim
theorem vg_ch {op op' : CmpOp} {r r' : R2} {gd gd' : D → D → R D} (ho : OpR X (compareOp op) r) (ho' : OpR X (compareOp op') r') (k : OpD X r gd) (n : NoEx2 gd) (k' : OpD X r' gd') (n' : NoEx2 gd') (ha : VE X W a f) (hb : VE X W b g) (hc : VE X W c h)
    (hm : lastMarks [op, op'] [b, c] = false := by with_unfolding_all rfl) : VG X W (.Compare a [op, op'] [b, c] pos) (chD gd gd' f g h) := ⟨peW (pe_chain ho ho' ha.pe hb.pe hc.pe hm) fun σ H Q q => tCh_of k n k' n' q⟩
theorem vt_ch {op op' : CmpOp} {r r' : R2} {gd gd' : D → D → R D} (ho : OpR X (compareOp op) r) (ho' : OpR X (compareOp op') r') (k : OpD X r gd) (n : NoEx2 gd) (k' : OpD X r' gd') (n' : NoEx2 gd') (ha : VE X W a f) (hb : VE X W b g) (hc : VE X W c h)
    (hm : lastMarks [op, op'] [b, c] = false := by with_unfolding_all rfl) : VT X W (.Compare a [op, op'] [b, c] pos) (boolR (chD gd gd' f g h)) := ⟨ptW (pt_chain ho ho' ha.pe hb.pe hc.pe hm) fun σ H Q ⟨ρ, re, o⟩ =>
  tCh_of k n k' n' ⟨ρ, re, (boolR_out o).mono fun d _ ⟨kk, e, q⟩ v H1 A s1 f1 n1 => by subst e; cases f1; exact ⟨kk, rfl, q H1 s1⟩⟩⟩
end
end Vs

namespace Vs
open PySem PySem.Spec PyProof.Rows L2

/-! ### built-in functions -/
def CbD (X : Cx) (r : List V → Hp → VK → Prop) (g : List D → R D) : Prop := ∀ (vs : List V) (ds : List D) (H : Hp) (Q : VK) (z : D), Rds X.K H vs ds → g ds = .ok z → (∀ v H' A, Same H H' → Fu X.K H' v z A → (∀ a ∈ A, H a = none) → Q v H') → r vs H Q
def NoEx1 (g : List D → R D) : Prop := ∀ ds c, g ds ≠ .ex c
def callB (g : List D → R D) (fs : Env → R (List D)) (ρ : Env) : R D := (fs ρ).bind g
section
variable {X : Cx} {W : WX} {e : Expr} {es : List Expr} {fs : Env → R (List D)} {x : Str} {p pos : Pos} {id T : String} {r : List V → Hp → VK → Prop} {g : List D → R D}
theorem tCB_of (k : CbD X r g) (n : NoEx1 g) {σ : L2.St} {H : Hp} {Q : VK} (h : tG X.K X.mg W (callB g fs) σ H Q) : tCB r (tFs X.K X.mg W fs) σ H Q := by
  obtain ⟨ρ, re, o⟩ := h
  refine ⟨ρ, re, (Out.bind o).mono fun ds _ q vs H1 s1 r1 => ?_⟩
  cases hz : g ds with
  | ok z =>
    rw [hz] at q
    exact k vs ds H1 Q z r1 hz fun v H2 A s2 f2 n2 => q v H2 A (s1.trans s2) f2 fun a m => s1.free (n2 a m)
  | ex c => exact absurd hz (n ds c)
  | st => rw [hz] at q; exact q.elim
theorem vg_callB (hc : CallR X (.builtin id) r) (k : CbD X r g) (n : NoEx1 g) (hg : Gl X x) (hm : X.mg x = none) (hv : bootBuiltins x = some (.builtin id)) (ha : VA X W (e :: es) fs) (hn : x ≠ "__name__" := by decide) (hdb : (x == ("__debug__" : Str)) = false := by decide)
    (he : starEach (e :: es) X.env = (false, eval e X.env) :: starEach es X.env := by rfl) (hpl : (backTo pos (starEach es X.env)).any (·.1) = false := by rfl) : VG X W (.Call (.Name x p) (e :: es) [] pos) (callB g fs) :=
  ⟨peW (pe_callB hc hg hm hv ha.pa hn hdb he hpl) fun σ H Q q => tCB_of k n q⟩
theorem vg_callTy (hc : CallR X (.type T) r) (k : CbD X r g) (n : NoEx1 g) (hg : Gl X x) (hm : X.mg x = none) (hv : bootBuiltins x = some (.type T)) (ha : VA X W (e :: es) fs) (hn : x ≠ "__name__" := by decide) (hdb : (x == ("__debug__" : Str)) = false := by decide)
    (he : starEach (e :: es) X.env = (false, eval e X.env) :: starEach es X.env := by rfl) (hpl : (backTo pos (starEach es X.env)).any (·.1) = false := by rfl) : VG X W (.Call (.Name x p) (e :: es) [] pos) (callB g fs) :=
  ⟨peW (pe_callTy hc hg hm hv ha.pa hn hdb he hpl) fun σ H Q q => tCB_of k n q⟩
end

def lenD : List D → R D
  | [.lst xs] => .ok (.int xs.length)
  | [.tup xs] => .ok (.int xs.length)
  | [.str z] => if z.length ≤ sizeLine then .ok (.int z.length) else .st
  | _ => .st
def absD : List D → R D
  | [.int i] => .ok (.int (if i < 0 then -i else i))
  | _ => .st
/-- ints of data -/
def intsO : List D → Option (List Int)
  | [] => some []
  | .int i :: r => (intsO r).map (i :: ·)
  | _ => none
def maxI (i j : Int) : Int := if j > i then j else i
def minI (i j : Int) : Int := if j < i then j else i
def maxL : List Int → Int
  | [] => 0
  | x :: r => r.foldl maxI x
def minL : List Int → Int
  | [] => 0
  | x :: r => r.foldl minI x
def maxD : List D → R D
  | [.int i, .int j] => .ok (.int (maxI i j))
  | [.lst xs] => match intsO xs with
    | some (n :: ns) => .ok (.int (maxL (n :: ns)))
    | _ => .st
  | _ => .st
def minD : List D → R D
  | [.int i, .int j] => .ok (.int (minI i j))
  | [.lst xs] => match intsO xs with
    | some (n :: ns) => .ok (.int (minL (n :: ns)))
    | _ => .st
  | _ => .st
def sumD : List D → R D
  | [.lst xs] => match intsO xs with
    | some ns => .ok (.int ns.sum)
    | none => .st
  | _ => .st
def bls : List D → Option (List Bool)
  | [] => some []
  | .bl i :: r => (bls r).map (i :: ·)
  | _ => none
def allD : List D → R D
  | [.lst xs] => match bls xs with
    | some bs => .ok (.bl (bs.all id))
    | none => .st
  | _ => .st
def anyD : List D → R D
  | [.lst xs] => match bls xs with
    | some bs => .ok (.bl (bs.any id))
    | none => .st
  | _ => .st
def intD : List D → R D
  | [.int i] => .ok (.int i)
  | [.bl k] => .ok (.int (if k then 1 else 0))
  | _ => .st
def strD : List D → R D
  | [.int i] => if i.natAbs.log2 < 1920 then .ok (.str (toString i)) else .st
  | _ => .st
def listD : List D → R D
  | [.lst xs] => if immDs xs = true then .ok (.lst xs) else .st
  | [.tup xs] => if immDs xs = true then .ok (.lst xs) else .st
  | _ => .st
def tupleD : List D → R D
  | [.lst xs] => if immDs xs = true then .ok (.tup xs) else .st
  | [.tup xs] => if immDs xs = true then .ok (.tup xs) else .st
  | _ => .st
def divmodD : List D → R D
  | [.int i, .int j] => if 0 < j ∧ j < 1073741824 then .ok (.tup [.int (i / j), .int (i % j)]) else .st
  | _ => .st
theorem maxI_foldl : ∀ (r : List Int) (x : Int), r.foldl maxI x ∈ x :: r ∧ ∀ y ∈ x :: r, y ≤ r.foldl maxI x
  | [], x => ⟨by simp, by simp⟩
  | z :: r, x => by
    have ih := maxI_foldl r (maxI x z)
    rw [List.foldl_cons]
    have hm : maxI x z = x ∨ maxI x z = z := by unfold maxI; split <;> simp
    have h1 : x ≤ maxI x z ∧ z ≤ maxI x z := by unfold maxI; split <;> constructor <;> omega
    refine ⟨?_, fun y hy => ?_⟩
    · rcases List.mem_cons.mp ih.1 with e | e
      · rw [e]; rcases hm with q | q <;> rw [q] <;> simp
      · simp [e]
    · have h2 := ih.2 (maxI x z) (by simp)
      rcases List.mem_cons.mp hy with e | e
      · subst e; omega
      · rcases List.mem_cons.mp e with e | e
        · subst e; omega
        · exact ih.2 y (by simp [e])
theorem minI_foldl : ∀ (r : List Int) (x : Int), r.foldl minI x ∈ x :: r ∧ ∀ y ∈ x :: r, r.foldl minI x ≤ y
  | [], x => ⟨by simp, by simp⟩
  | z :: r, x => by
    have ih := minI_foldl r (minI x z)
    rw [List.foldl_cons]
    have hm : minI x z = x ∨ minI x z = z := by unfold minI; split <;> simp
    have h1 : minI x z ≤ x ∧ minI x z ≤ z := by unfold minI; split <;> constructor <;> omega
    refine ⟨?_, fun y hy => ?_⟩
    · rcases List.mem_cons.mp ih.1 with e | e
      · rw [e]; rcases hm with q | q <;> rw [q] <;> simp
      · simp [e]
    · have h2 := ih.2 (minI x z) (by simp)
      rcases List.mem_cons.mp hy with e | e
      · subst e; omega
      · rcases List.mem_cons.mp e with e | e
        · subst e; omega
        · exact ih.2 y (by simp [e])
section
variable {K : PySem.W.Frag} {H : Hp}
theorem intsO_rd : ∀ {xs : List D} {ns : List Int} {vs : List V}, intsO xs = some ns → Rds K H vs xs → vs = ns.map V.int
  | [], ns, vs, h, r => by cases h; cases r; rfl
  | .int i :: xs, ns, vs, h, r => by
    rw [intsO] at h
    cases e : intsO xs with
    | none => rw [e] at h; cases h
    | some ms =>
      rw [e] at h
      cases h
      cases r with
      | cons h1 r1 => cases h1; rw [intsO_rd e r1]; rfl
  | .non :: _, _, _, h, _ => by cases h
  | .bl _ :: _, _, _, h, _ => by cases h
  | .str _ :: _, _, _, h, _ => by cases h
  | .lst _ :: _, _, _, h, _ => by cases h
  | .tup _ :: _, _, _, h, _ => by cases h
  | .dic _ _ :: _, _, _, h, _ => by cases h
  | .fn _ :: _, _, _, h, _ => by cases h
theorem bls_rd : ∀ {xs : List D} {ns : List Bool} {vs : List V}, bls xs = some ns → Rds K H vs xs → vs = ns.map V.bl
  | [], ns, vs, h, r => by cases h; cases r; rfl
  | .bl i :: xs, ns, vs, h, r => by
    rw [bls] at h
    cases e : bls xs with
    | none => rw [e] at h; cases h
    | some ms =>
      rw [e] at h
      cases h
      cases r with
      | cons h1 r1 => cases h1; rw [bls_rd e r1]; rfl
  | .non :: _, _, _, h, _ => by cases h
  | .int _ :: _, _, _, h, _ => by cases h
  | .str _ :: _, _, _, h, _ => by cases h
  | .lst _ :: _, _, _, h, _ => by cases h
  | .tup _ :: _, _, _, h, _ => by cases h
  | .dic _ _ :: _, _, _, h, _ => by cases h
  | .fn _ :: _, _, _, h, _ => by cases h
end
section
variable {X : Cx}
theorem rds1 {K : PySem.W.Frag} {H : Hp} {vs : List V} {d : D} (r : Rds K H vs [d]) : ∃ v, vs = [v] ∧ Rd K H v d := by
  cases r with
  | cons h r => cases r; exact ⟨_, rfl, h⟩
theorem rds2 {K : PySem.W.Frag} {H : Hp} {vs : List V} {d e : D} (r : Rds K H vs [d, e]) : ∃ v w, vs = [v, w] ∧ Rd K H v d ∧ Rd K H w e := by
  cases r with
  | cons h r => cases r with
    | cons h2 r => cases r; exact ⟨_, _, rfl, h, h2⟩
theorem cb_len : CbD X (fun xs H Q => ∃ x n, xs = [x] ∧ LenV X.K x H n ∧ Q (.int n) H) lenD := fun vs ds H Q z r h q => by
  unfold lenD at h
  split at h
  · obtain ⟨v, rfl, h1⟩ := rds1 r
    cases h
    cases h1 with
    | lst h1 r1 => exact ⟨_, _, rfl, .inl ⟨_, h1, rfl⟩, by rw [r1.length]; exact q _ H [] (Same.refl H) (.int _) (fun _ h => nomatch h)⟩
  · obtain ⟨v, rfl, h1⟩ := rds1 r
    cases h
    cases h1 with
    | tup h1 r1 => exact ⟨_, _, rfl, .inr ⟨_, h1, rfl⟩, by rw [r1.length]; exact q _ H [] (Same.refl H) (.int _) (fun _ h => nomatch h)⟩
  · obtain ⟨v, rfl, h1⟩ := rds1 r
    split at h
    · rename_i c
      cases h
      cases h1
      exact ⟨_, _, rfl, ⟨c, rfl⟩, q _ H [] (Same.refl H) (.int _) (fun _ h => nomatch h)⟩
    · cases h
  · cases h
theorem nx_len : NoEx1 lenD := fun ds c h => by unfold lenD at h; split at h <;> first | cases h | (split at h <;> cases h)
theorem cb_abs : CbD X (fun xs H Q => ∃ i, xs = [.int i] ∧ Q (.int (if i < 0 then -i else i)) H) absD := fun vs ds H Q z r h q => by
  unfold absD at h
  split at h
  · obtain ⟨v, rfl, h1⟩ := rds1 r
    cases h
    cases h1
    exact ⟨_, rfl, q _ H [] (Same.refl H) (.int _) (fun _ h => nomatch h)⟩
  · cases h
theorem nx_abs : NoEx1 absD := fun ds c h => by unfold absD at h; split at h <;> cases h
def rMaxA (K : PySem.W.Frag) : List V → Hp → VK → Prop := fun xs H Q => (∃ i j, xs = [.int i, .int j] ∧ Q (.int (if j > i then j else i)) H) ∨ rMax K xs H Q
theorem call_maxA (hc : X.calm = true) : CallR X (.builtin "max") (rMaxA X.K) := (call_max2 hc).or (cr_max hc)
def rMinA (K : PySem.W.Frag) : List V → Hp → VK → Prop := fun xs H Q => (∃ i j, xs = [.int i, .int j] ∧ Q (.int (if j < i then j else i)) H) ∨ rMin K xs H Q
theorem call_minA (hc : X.calm = true) : CallR X (.builtin "min") (rMinA X.K) := (call_min2 hc).or (cr_min hc)
theorem cb_max : CbD X (rMaxA X.K) maxD := fun vs ds H Q z r h q => by
  unfold maxD at h
  split at h
  · obtain ⟨v, w, rfl, h1, h2⟩ := rds2 r
    cases h
    cases h1
    cases h2
    exact .inl ⟨_, _, rfl, q _ H [] (Same.refl H) (.int _) (fun _ h => nomatch h)⟩
  · obtain ⟨v, rfl, h1⟩ := rds1 r
    split at h
    · rename_i n ns e
      cases h
      cases h1 with
      | lst h1 r1 =>
        have ev := intsO_rd e r1
        subst ev
        refine .inr ⟨_, n :: ns, rfl, h1, by simp, fun m hm hy => ?_⟩
        obtain ⟨k1, k2⟩ := maxI_foldl ns n
        have em : m = maxL (n :: ns) := Int.le_antisymm (k2 m hm) (hy _ k1)
        rw [em]
        exact q _ H [] (Same.refl H) (.int _) (fun _ h => nomatch h)
    · cases h
  · cases h
theorem nx_max : NoEx1 maxD := fun ds c h => by unfold maxD at h; split at h <;> first | cases h | (split at h <;> cases h)
theorem cb_min : CbD X (rMinA X.K) minD := fun vs ds H Q z r h q => by
  unfold minD at h
  split at h
  · obtain ⟨v, w, rfl, h1, h2⟩ := rds2 r
    cases h
    cases h1
    cases h2
    exact .inl ⟨_, _, rfl, q _ H [] (Same.refl H) (.int _) (fun _ h => nomatch h)⟩
  · obtain ⟨v, rfl, h1⟩ := rds1 r
    split at h
    · rename_i n ns e
      cases h
      cases h1 with
      | lst h1 r1 =>
        have ev := intsO_rd e r1
        subst ev
        refine .inr ⟨_, n :: ns, rfl, h1, by simp, fun m hm hy => ?_⟩
        obtain ⟨k1, k2⟩ := minI_foldl ns n
        have em : m = minL (n :: ns) := Int.le_antisymm (hy _ k1) (k2 m hm)
        rw [em]
        exact q _ H [] (Same.refl H) (.int _) (fun _ h => nomatch h)
    · cases h
  · cases h
theorem nx_min : NoEx1 minD := fun ds c h => by unfold minD at h; split at h <;> first | cases h | (split at h <;> cases h)
theorem cb_sum : CbD X (rSum X.K) sumD := fun vs ds H Q z r h q => by
  unfold sumD at h
  split at h
  · obtain ⟨v, rfl, h1⟩ := rds1 r
    split at h
    · rename_i ns e
      cases h
      cases h1 with
      | lst h1 r1 =>
        have ev := intsO_rd e r1
        subst ev
        exact ⟨_, ns, rfl, h1, q _ H [] (Same.refl H) (.int _) (fun _ h => nomatch h)⟩
    · cases h
  · cases h
theorem nx_sum : NoEx1 sumD := fun ds c h => by unfold sumD at h; split at h <;> first | cases h | (split at h <;> cases h)
theorem cb_all : CbD X (rAll X.K) allD := fun vs ds H Q z r h q => by
  unfold allD at h
  split at h
  · obtain ⟨v, rfl, h1⟩ := rds1 r
    split at h
    · rename_i ns e
      cases h
      cases h1 with
      | lst h1 r1 =>
        have ev := bls_rd e r1
        subst ev
        exact ⟨_, ns, rfl, h1, q _ H [] (Same.refl H) (.bl _) (fun _ h => nomatch h)⟩
    · cases h
  · cases h
theorem nx_all : NoEx1 allD := fun ds c h => by unfold allD at h; split at h <;> first | cases h | (split at h <;> cases h)
theorem cb_any : CbD X (rAny X.K) anyD := fun vs ds H Q z r h q => by
  unfold anyD at h
  split at h
  · obtain ⟨v, rfl, h1⟩ := rds1 r
    split at h
    · rename_i ns e
      cases h
      cases h1 with
      | lst h1 r1 =>
        have ev := bls_rd e r1
        subst ev
        exact ⟨_, ns, rfl, h1, q _ H [] (Same.refl H) (.bl _) (fun _ h => nomatch h)⟩
    · cases h
  · cases h
theorem nx_any : NoEx1 anyD := fun ds c h => by unfold anyD at h; split at h <;> first | cases h | (split at h <;> cases h)
theorem cb_int : CbD X (fun xs H Q => (∃ i, xs = [.int i] ∧ Q (.int i) H) ∨ ∃ k, xs = [.bl k] ∧ Q (.int (if k then 1 else 0)) H) intD := fun vs ds H Q z r h q => by
  unfold intD at h
  split at h
  · obtain ⟨v, rfl, h1⟩ := rds1 r
    cases h
    cases h1
    exact .inl ⟨_, rfl, q _ H [] (Same.refl H) (.int _) (fun _ h => nomatch h)⟩
  · obtain ⟨v, rfl, h1⟩ := rds1 r
    cases h
    cases h1
    exact .inr ⟨_, rfl, q _ H [] (Same.refl H) (.int _) (fun _ h => nomatch h)⟩
  · cases h
theorem nx_int : NoEx1 intD := fun ds c h => by unfold intD at h; split at h <;> cases h
theorem cb_str : CbD X (fun xs H Q => ∃ i : Int, xs = [.int i] ∧ i.natAbs.log2 < 1920 ∧ Q (.str (toString i)) H) strD := fun vs ds H Q z r h q => by
  unfold strD at h
  split at h
  · obtain ⟨v, rfl, h1⟩ := rds1 r
    split at h
    · rename_i c
      cases h
      cases h1
      exact ⟨_, rfl, c, q _ H [] (Same.refl H) (.str _) (fun _ h => nomatch h)⟩
    · cases h
  · cases h
theorem nx_str : NoEx1 strD := fun ds c h => by unfold strD at h; split at h <;> first | cases h | (split at h <;> cases h)
theorem cb_list : CbD X (fun xs H Q => ∃ p ys, xs = [.ref p] ∧ (SqL X.K H p ys ∨ SqT X.K H p ys) ∧ ∀ l, H l = none → Q (.ref l) (upd H l (.lst ys))) listD := fun vs ds H Q z r h q => by
  unfold listD at h
  split at h
  · obtain ⟨v, rfl, h1⟩ := rds1 r
    split at h
    · rename_i c
      cases h
      cases h1 with
      | lst h1 r1 => exact ⟨_, _, rfl, .inl h1, fun l hl => q _ _ [l] (new_same hl) (fu_new_lst hl r1 c) fun a ha => by rw [List.mem_singleton.mp ha]; exact hl⟩
    · cases h
  · obtain ⟨v, rfl, h1⟩ := rds1 r
    split at h
    · rename_i c
      cases h
      cases h1 with
      | tup h1 r1 => exact ⟨_, _, rfl, .inr h1, fun l hl => q _ _ [l] (new_same hl) (fu_new_lst hl r1 c) fun a ha => by rw [List.mem_singleton.mp ha]; exact hl⟩
    · cases h
  · cases h
theorem nx_list : NoEx1 listD := fun ds c h => by unfold listD at h; split at h <;> first | cases h | (split at h <;> cases h)
theorem cb_tuple : CbD X (fun xs H Q => ∃ p ys, xs = [.ref p] ∧ ((SqL X.K H p ys ∧ ∀ l, H l = none → Q (.ref l) (upd H l (.tup ys))) ∨ (SqT X.K H p ys ∧ Q (.ref p) H))) tupleD := fun vs ds H Q z r h q => by
  unfold tupleD at h
  split at h
  · obtain ⟨v, rfl, h1⟩ := rds1 r
    split at h
    · rename_i c
      cases h
      cases h1 with
      | lst h1 r1 => exact ⟨_, _, rfl, .inl ⟨h1, fun l hl => q _ _ [] (new_same hl) (fu_new_tup hl r1 c) (fun _ h => nomatch h)⟩⟩
    · cases h
  · obtain ⟨v, rfl, h1⟩ := rds1 r
    split at h
    · rename_i c
      cases h
      cases h1 with
      | tup h1 r1 => exact ⟨_, _, rfl, .inr ⟨h1, q _ H [] (Same.refl H) (.tup h1 (r1.fu c)) (fun _ h => nomatch h)⟩⟩
    · cases h
  · cases h
theorem nx_tuple : NoEx1 tupleD := fun ds c h => by unfold tupleD at h; split at h <;> first | cases h | (split at h <;> cases h)
theorem cb_divmod : CbD X (fun xs H Q => ∃ i j, xs = [.int i, .int j] ∧ CDiv i j ∧ ∀ p, H p = none → Q (.ref p) (upd H p (.tup [.int (i / j), .int (i % j)]))) divmodD := fun vs ds H Q z r h q => by
  unfold divmodD at h
  split at h
  · obtain ⟨v, w, rfl, h1, h2⟩ := rds2 r
    split at h
    · rename_i c
      cases h
      cases h1
      cases h2
      exact ⟨_, _, rfl, c, fun p hp => q _ _ [] (new_same hp) (fu_new_tup hp (.cons (.int _) (.cons (.int _) .nil)) rfl) (fun _ h => nomatch h)⟩
    · cases h
  · cases h
theorem nx_divmod : NoEx1 divmodD := fun ds c h => by unfold divmodD at h; split at h <;> first | cases h | (split at h <;> cases h)
end

/-! ### isinstance(x, T), T a built-in class -/
def clsD : D → String
  | .non => "NoneType"
  | .bl _ => "bool"
  | .int _ => "int"
  | .str _ => "str"
  | .lst _ => "list"
  | .tup _ => "tuple"
  | .dic _ _ => "dict"
  | .fn _ => ""
def isT (T : String) (d : D) : R D := match d with
  | .fn _ => .st
  | d => .ok (.bl (T == clsD d || (T == "int" && clsD d == "bool")))
def isiE (T : String) (f : Env → R D) (ρ : Env) : R D := (f ρ).bind (isT T)
def kinds5 (T : String) : Prop := ∀ c ∈ ["NoneType", "bool", "int", "str", "list", "tuple", "dict"], kitB c T = some (T == c || (T == "int" && c == "bool"))
theorem Rd.tyx {K : PySem.W.Frag} {H : Hp} {v : V} {d : D} (r : Rd K H v d) : (∃ a, d = .fn a) ∨ TyX K H v (.type (clsD d)) := by
  cases r with
  | non => exact .inr (.base .non)
  | bl b => exact .inr (.base (.bl b))
  | int i => exact .inr (.base (.int i))
  | str x => exact .inr (.base (.str x))
  | fn a => exact .inl ⟨a, rfl⟩
  | lst h _ =>
    rcases h with (h | ⟨o, h⟩) | ⟨o, its, n, h1, h2, _⟩
    · exact .inr (.base (.lst h))
    · exact .inr (.base (.frz h))
    · exact .inr (.kList h1 h2)
  | tup h _ =>
    rcases h with (h | ⟨o, h⟩) | ⟨o, its, n, h1, h2, _⟩
    · exact .inr (.base (.tup h))
    · exact .inr (.fTuple h)
    · exact .inr (.kTuple h1 h2)
  | dk h _ _ => exact .inr (.base (.dK h))
  | dt h _ _ => exact .inr (.base (.dT h))
section
variable {X : Cx} {W : WX} {a : Expr} {f : Env → R D} {p p2 pos : Pos} {T : String} {x : Str}
theorem vg_isi (k5 : kinds5 T) (hg : Gl X "isinstance") (hm : X.mg "isinstance" = none) (hT : PE X (.Name x p2) (tC (.ty T))) (ha : VE X W a f)
    (he : starEach [a, .Name x p2] X.env = (false, eval a X.env) :: starEach [.Name x p2] X.env := by rfl) (he2 : starEach [.Name x p2] X.env = [(false, eval (.Name x p2) X.env)] := by rfl) (hpl : (backTo pos (starEach [.Name x p2] X.env)).any (·.1) = false := by rfl) : VG X W (.Call (.Name "isinstance" p) [a, .Name x p2] [] pos) (isiE T f) :=
  ⟨peW (pe_callB call_isi hg hm boot_isinstance (pa_cons ha.pe (pa_cons hT pa_nil he2) he) (by decide) (by decide) he hpl) fun σ H Q ⟨ρ, re, o⟩ => ⟨ρ, re, (Out.bind o).mono fun d _ q v H1 s1 r1 => by
    show rIsi X.K [v, .ty T] H1 Q
    rcases r1.tyx with ⟨b, e⟩ | t
    · subst e
      exact q.elim
    · have nf : ∀ a, d ≠ .fn a := fun a z => by subst z; exact q.elim
      have ek : kitB (clsD d) T = some (T == clsD d || (T == "int" && clsD d == "bool")) := by
        refine k5 _ ?_
        cases d with
        | fn a => exact absurd rfl (nf a)
        | _ => simp [clsD]
      refine ⟨v, .ty T, _, _, _, rfl, .ty T, t, kit_ty ek, ?_⟩
      have ei : isT T d = .ok (.bl (T == clsD d || (T == "int" && clsD d == "bool"))) := by
        cases d with
        | fn a => exact absurd rfl (nf a)
        | _ => rfl
      rw [ei] at q
      exact q _ H1 [] s1 (.bl _) (fun _ h => nomatch h)⟩⟩
end
theorem k5_int : kinds5 "int" := by unfold kinds5; decide +kernel
theorem k5_bool : kinds5 "bool" := by unfold kinds5; decide +kernel
theorem k5_str : kinds5 "str" := by unfold kinds5; decide +kernel
theorem k5_list : kinds5 "list" := by unfold kinds5; decide +kernel
theorem k5_tuple : kinds5 "tuple" := by unfold kinds5; decide +kernel

/-! ### calls of the text's own defs -/
/-- a def that is a function of data: what it hands back is new -/
def spF (K : PySem.W.Frag) (mg : Str → Option Value) (n : Nat) (m : List D → R D) : Sp := fun vs H Q E => vs.length = n ∧ ∃ ds, Rds K H vs ds ∧ match m ds with
  | .ok d => ∀ v H' A, Same H H' → Fu K H' v d A → (∀ a ∈ A, H a = none) → Q v H'
  | .ex c => ∃ C, mg c = some (.ref C) ∧ ∀ H', Same H H' → E (.ref C) none H'
  | .st => False
section
variable {X : Cx} {W : WX} {k n : Nat} {f : Addr} {fd : FuncData} {ps : List Str} {m : List D → R D} {x : Str} {p pos : Pos} {e : Expr} {es : List Expr} {fs : Env → R (List D)}
def callF (m : List D → R D) (fs : Env → R (List D)) (ρ : Env) : R D := (fs ρ).bind m
theorem vg_call (F : FnOk X.prog X.w X.K X.mg X.base (L2.CX X.prog X.w) k f fd ps (spF X.K X.mg n m)) (hr : Room k X.A) (tk : Takes X W) (hg : Gl X x) (hm : X.mg x = some (.ref f)) (hk : PySem.W.keepIn X.K (.ref f) = true) (hb : Binds X.K fd ps [])
    (ha : VA X W (e :: es) fs) (hl : LenA fs n) (hdb : (x == ("__debug__" : Str)) = false := by decide) (he : starEach (e :: es) X.env = (false, eval e X.env) :: starEach es X.env := by rfl) (hpl : (backTo pos (starEach es X.env)).any (·.1) = false := by rfl) :
    VG X W (.Call (.Name x p) (e :: es) [] pos) (callF m fs) := ⟨peW (pe_callS F hr hg hm hk hb (fun σ => passAt tk σ) ha.pa hdb he hpl) fun σ H Q ⟨ρ, re, o⟩ => ⟨ρ, re, (Out.bind o).mono fun ds hd q vs H1 s1 r1 => by
  refine ⟨r1.length.trans (hl ρ ds hd), ds, r1, ?_⟩
  cases hz : m ds with
  | ok d => rw [hz] at q; exact fun v H' A s2 f2 n2 => q v H' A (s1.trans s2) f2 fun a z => s1.free (n2 a z)
  | ex c => rw [hz] at q; obtain ⟨C, h1, h2⟩ := q; exact ⟨C, h1, fun H' s2 => h2 H' (s1.trans s2)⟩
  | st => rw [hz] at q; exact q.elim⟩⟩
end
end Vs

namespace Vs
open PySem PySem.Spec PyProof.Rows L2

/-! ### what never changes -/
def Stt : HO → Prop
  | .tup _ => True
  | .frz _ _ => True
  | _ => False
section
variable {K : PySem.W.Frag} {H H' S : Hp}
mutual
theorem Fu.soft : ∀ {v : V} {d : D} {A : List Addr}, Fu K H v d A → ∀ a ∈ A, ∃ o, H a = some o ∧ ¬ Stt o
  | _, _, _, .non, _, h => nomatch h
  | _, _, _, .bl b, _, h => nomatch h
  | _, _, _, .int i, _, h => nomatch h
  | _, _, _, .str x, _, h => nomatch h
  | _, _, _, .fn a, _, h => nomatch h
  | _, _, _, .lst h r n, a, m => by
    rcases List.mem_cons.mp m with e | m
    · exact ⟨.lst _, e ▸ h, fun z => (show False from z)⟩
    · exact Fus.soft r a m
  | _, _, _, .tup h r, a, m => Fus.soft r a m
  | _, _, _, .dk h q r n, a, m => by
    rcases List.mem_cons.mp m with e | m
    · exact ⟨.dK _, e ▸ h, fun z => (show False from z)⟩
    · exact Fus.soft r a m
  | _, _, _, .dt h q r n, a, m => by
    rcases List.mem_cons.mp m with e | m
    · exact ⟨.dT _, e ▸ h, fun z => (show False from z)⟩
    · exact Fus.soft r a m
theorem Fus.soft : ∀ {vs : List V} {ds : List D} {A : List Addr}, Fus K H vs ds A → ∀ a ∈ A, ∃ o, H a = some o ∧ ¬ Stt o
  | _, _, _, .nil, _, h => nomatch h
  | _, _, _, .cons h r _, a, m => by
    rcases List.mem_append.mp m with m | m
    · exact Fu.soft h a m
    · exact Fus.soft r a m
end
open Classical in
/-- S, and what of H never changes, and what stands at A -/
noncomputable def ext (S H : Hp) (A : List Addr) : Hp := fun a => match S a with
  | some o => some o
  | none => match H a with
    | some o => if Stt o ∨ a ∈ A then some o else none
    | none => none
theorem ext_s (A : List Addr) : Same S (ext S H A) := fun b o e => by unfold ext; rw [e]
theorem ext_h (s : Same S H) (A : List Addr) : Same (ext S H A) H := fun b o e => by
  unfold ext at e
  cases q : S b with
  | some u => rw [q] at e; cases e; exact s b _ q
  | none =>
    rw [q] at e
    cases q' : H b with
    | some u =>
      rw [q'] at e
      simp only at e
      split at e
      · exact e
      · cases e
    | none => rw [q'] at e; cases e
theorem ext_none {A : List Addr} {a : Addr} (h : S a = none) (n : a ∉ A) (t : ∀ o, H a = some o → ¬ Stt o) : ext S H A a = none := by
  unfold ext
  rw [h]
  cases q : H a with
  | some o =>
    simp only
    rw [if_neg fun z => z.elim (t o q) n]
  | none => rfl
theorem ext_stt (s : Same S H) {A : List Addr} {a : Addr} {o : HO} (h : H a = some o) (t : Stt o) : ext S H A a = some o := by
  unfold ext
  cases q : S a with
  | some u => rw [s a u q] at h; exact h
  | none =>
    rw [h]
    simp only
    rw [if_pos (.inl t)]
theorem ext_at (s : Same S H) {A : List Addr} {a : Addr} {o : HO} (h : H a = some o) (t : a ∈ A) : ext S H A a = some o := by
  unfold ext
  cases q : S a with
  | some u => rw [s a u q] at h; exact h
  | none =>
    rw [h]
    simp only
    rw [if_pos (.inr t)]
theorem ext_seqT (s : Same S H) {A : List Addr} {a : Addr} {xs : List V} (h : SqT K H a xs) : SqT K (ext S H A) a xs := by
  rcases h with (h | ⟨o, h⟩) | h
  · exact .inl (.inl (ext_stt s h trivial))
  · exact .inl (.inr ⟨o, ext_stt s h trivial⟩)
  · exact .inr h
mutual
theorem Fu.ext (s : Same S H) {B : List Addr} : ∀ {v : V} {d : D} {A : List Addr}, Fu K H v d A → (∀ a ∈ A, a ∈ B) → Rd K (ext S H B) v d
  | _, _, _, .non, _ => .non
  | _, _, _, .bl b, _ => .bl b
  | _, _, _, .int i, _ => .int i
  | _, _, _, .str x, _ => .str x
  | _, _, _, .fn a, _ => .fn a
  | _, _, _, .lst h r n, k => .lst (SqL.of (ext_at s h (k _ List.mem_cons_self))) (Fus.ext s r fun a m => k a (List.mem_cons_of_mem _ m))
  | _, _, _, .tup h r, k => .tup (ext_seqT s h) (Fus.ext s r k)
  | _, _, _, .dk h q r n, k => .dk (ext_at s h (k _ List.mem_cons_self)) q (Fus.ext s r fun a m => k a (List.mem_cons_of_mem _ m))
  | _, _, _, .dt h q r n, k => .dt (ext_at s h (k _ List.mem_cons_self)) q (Fus.ext s r fun a m => k a (List.mem_cons_of_mem _ m))
theorem Fus.ext (s : Same S H) {B : List Addr} : ∀ {vs : List V} {ds : List D} {A : List Addr}, Fus K H vs ds A → (∀ a ∈ A, a ∈ B) → Rds K (ext S H B) vs ds
  | _, _, _, .nil, _ => .nil
  | _, _, _, .cons h r _, k => .cons (Fu.ext s h fun a m => k a (List.mem_append_left _ m)) (Fus.ext s r fun a m => k a (List.mem_append_right _ m))
end
end

/-! ### the state between two statements -/
/-- S: what stays; F i: the lists of slot i, its own (i in own) -/
structure Stx (own : List Nat) (K : PySem.W.Frag) (S : Hp) (F : Nat → List Addr) (ρ : Env) (σ : L2.St) (H : Hp) : Prop where
  len : ρ.length = σ.length
  sub : Same S H
  cl : ∀ a o, H a = some o → Stt o → S a = some o
  val : ∀ (i : Nat) (d : D), ρ[i]? = some (some d) → ∃ v, σ[i]? = some (some v) ∧ (i ∈ own → Fu K H v d (F i)) ∧ (i ∉ own → Rd K S v d)
  out : ∀ i ∈ own, ∀ a ∈ F i, S a = none ∧ ∃ o, H a = some o ∧ ¬ Stt o
  dis : ∀ i ∈ own, ∀ j ∈ own, i ≠ j → ∀ a ∈ F i, a ∉ F j
def Sta (own : List Nat) (B : Hp) (K : PySem.W.Frag) (ρ : Env) (σ : L2.St) (H : Hp) : Prop := ∃ S F, Same B S ∧ Stx own K S F ρ σ H
section
variable {K : PySem.W.Frag} {H H' S B B' : Hp} {own own' : List Nat} {F : Nat → List Addr} {ρ : Env} {σ : L2.St}
theorem Stx.env (h : Stx own K S F ρ σ H) : REnv K ρ σ H := ⟨h.len, fun i d q => by
  obtain ⟨v, h1, h2, h3⟩ := h.val i d q
  by_cases m : i ∈ own
  · exact ⟨v, h1, (h2 m).rd⟩
  · exact ⟨v, h1, (h3 m).mono h.sub⟩⟩
theorem Sta.env (h : Sta own B K ρ σ H) : REnv K ρ σ H := let ⟨_, _, _, x⟩ := h; x.env
theorem Sta.base (h : Sta own B K ρ σ H) : Same B H := let ⟨_, _, b, x⟩ := h; b.trans x.sub
theorem Sta.down (h : Sta own B' K ρ σ H) (s : Same B B') : Sta own B K ρ σ H := let ⟨S, F, b, x⟩ := h; ⟨S, F, s.trans b, x⟩
/-- the heap has grown -/
theorem Stx.grow (h : Stx own K S F ρ σ H) (s : Same H H') {A : List Addr} (hA : ∀ a ∈ A, H a = none) : Stx own K (ext S H' A) F ρ σ H' := by
  have sS : Same S H' := h.sub.trans s
  refine ⟨h.len, ext_h sS A, fun a o e t => ext_stt sS e t, fun i d q => ?_, fun i m a ha => ?_, h.dis⟩
  · obtain ⟨v, h1, h2, h3⟩ := h.val i d q
    exact ⟨v, h1, fun m => (h2 m).same s, fun m => (h3 m).mono (ext_s A)⟩
  · obtain ⟨h1, o, h2, h3⟩ := h.out i m a ha
    refine ⟨ext_none h1 (fun z => ?_) (fun o' e => ?_), o, s a o h2, h3⟩
    · rw [hA a z] at h2; cases h2
    · rw [s a o h2] at e; cases e; exact h3
theorem Sta.grow (h : Sta own B K ρ σ H) (s : Same H H') : Sta own B K ρ σ H' :=
  let ⟨_, _, b, x⟩ := h
  ⟨_, _, b.trans (ext_s []), x.grow s (fun _ z => nomatch z)⟩
theorem get_set {α : Type} {l : List α} {i j : Nat} {x y : α} (h : (l.set i x)[j]? = some y) : (j = i ∧ x = y ∧ i < l.length) ∨ (j ≠ i ∧ l[j]? = some y) := by
  rw [List.getElem?_set] at h
  by_cases e : i = j
  · subst e
    rw [if_pos rfl] at h
    split at h
    · rename_i hl
      exact .inl ⟨rfl, Option.some.inj h, hl⟩
    · cases h
  · rw [if_neg e] at h
    exact .inr ⟨Ne.symm e, h⟩
/-- a slot takes a new thing, its own -/
theorem Stx.put (h : Stx own K S F ρ σ H) {v : V} {d : D} {A : List Addr} (s : Same H H') (f : Fu K H' v d A) (hA : ∀ a ∈ A, H a = none) (i : Nat) :
    Stx (i :: own) K (ext S H' []) (fun j => if j = i then A else F j) (ρ.set i (some d)) (σ.set i (some v)) H' := by
  have g := h.grow s (A := []) (fun _ z => nomatch z)
  have sS : Same S H' := h.sub.trans s
  refine ⟨by rw [List.length_set, List.length_set]; exact h.len, g.sub, g.cl, fun j e q => ?_, fun j m a ha => ?_, fun j mj k mk ne a ha => ?_⟩
  · rcases get_set q with ⟨rfl, e1, hl⟩ | ⟨ne, q⟩
    · cases e1
      refine ⟨v, ?_, fun _ => ?_, fun m => absurd List.mem_cons_self m⟩
      · rw [List.getElem?_set_self (by rw [← h.len]; exact hl)]
      · rw [if_pos rfl]; exact f
    · obtain ⟨u, h1, h2, h3⟩ := g.val j e q
      refine ⟨u, by rw [List.getElem?_set_ne (Ne.symm ne)]; exact h1, fun m => ?_, fun m => h3 fun z => m (List.mem_cons_of_mem _ z)⟩
      rw [if_neg ne]
      exact h2 ((List.mem_cons.mp m).resolve_left ne)
  · by_cases e : j = i
    · rw [if_pos e] at ha
      obtain ⟨o, h1, h2⟩ := f.soft a ha
      refine ⟨ext_none (h.sub.free (hA a ha)) (fun z => nomatch z) (fun o' e' => ?_), o, h1, h2⟩
      rw [h1] at e'; cases e'; exact h2
    · rw [if_neg e] at ha
      exact g.out j ((List.mem_cons.mp m).resolve_left e) a ha
  · intro hk
    by_cases ej : j = i
    · rw [if_pos ej] at ha
      have ek : k ≠ i := fun z => ne (ej.trans z.symm)
      rw [if_neg ek] at hk
      obtain ⟨_, o, h1, _⟩ := h.out k ((List.mem_cons.mp mk).resolve_left ek) a hk
      rw [hA a ha] at h1; cases h1
    · rw [if_neg ej] at ha
      by_cases ek : k = i
      · rw [if_pos ek] at hk
        obtain ⟨_, o, h1, _⟩ := h.out j ((List.mem_cons.mp mj).resolve_left ej) a ha
        rw [hA a hk] at h1; cases h1
      · rw [if_neg ek] at hk
        exact h.dis j ((List.mem_cons.mp mj).resolve_left ej) k ((List.mem_cons.mp mk).resolve_left ek) ne a ha hk
/-- a slot that owns nothing takes a thing that stays -/
theorem Stx.lay (h : Stx own K S F ρ σ H) {v : V} {d : D} {i : Nat} (hi : i ∉ own) (r : Rd K S v d) : Stx own K S F (ρ.set i (some d)) (σ.set i (some v)) H := by
  refine ⟨by rw [List.length_set, List.length_set]; exact h.len, h.sub, h.cl, fun j e q => ?_, h.out, h.dis⟩
  rcases get_set q with ⟨rfl, e1, hl⟩ | ⟨ne, q⟩
  · cases e1
    exact ⟨v, by rw [List.getElem?_set_self (by rw [← h.len]; exact hl)], fun m => absurd m hi, fun _ => r⟩
  · obtain ⟨u, h1, h2⟩ := h.val j e q
    exact ⟨u, by rw [List.getElem?_set_ne (Ne.symm ne)]; exact h1, h2⟩
/-- fewer slots own: what they had stays from now on -/
theorem Stx.weak (h : Stx own K S F ρ σ H) (w : ∀ i ∈ own', i ∈ own) : Sta own' S K ρ σ H := by
  refine ⟨ext S H ((own.filter (fun i => decide (i ∉ own'))).flatMap F), F, ext_s _, h.len, ext_h h.sub _, fun a o e t => ext_stt h.sub e t, fun i d q => ?_, fun i m a ha => ?_, fun i mi j mj => h.dis i (w i mi) j (w j mj)⟩
  · obtain ⟨v, h1, h2, h3⟩ := h.val i d q
    refine ⟨v, h1, fun m => h2 (w i m), fun m => ?_⟩
    by_cases mo : i ∈ own
    · exact (h2 mo).ext h.sub fun a ha => List.mem_flatMap.mpr ⟨i, List.mem_filter.mpr ⟨mo, by simpa using m⟩, ha⟩
    · exact (h3 mo).mono (ext_s _)
  · obtain ⟨h1, o, h2, h3⟩ := h.out i (w i m) a ha
    refine ⟨ext_none h1 (fun z => ?_) (fun o' e => ?_), o, h2, h3⟩
    · obtain ⟨j, hj, hz⟩ := List.mem_flatMap.mp z
      obtain ⟨hj1, hj2⟩ := List.mem_filter.mp hj
      have hj2 : j ∉ own' := by simpa using hj2
      exact h.dis i (w i m) j hj1 (fun e => hj2 (e ▸ m)) a ha hz
    · rw [h2] at e; cases e; exact h3
theorem Sta.weak (h : Sta own B K ρ σ H) (w : ∀ i ∈ own', i ∈ own) : Sta own' B K ρ σ H :=
  let ⟨_, _, b, x⟩ := h
  (x.weak w).down b
end

/-! ### statements -/
inductive Sr where
  | st | nx (ρ : Env) | rt (d : D) | bk (ρ : Env) | ct (ρ : Env) | ex (c : Str) (ρ : Env)
def bindS {α : Type} (r : R α) (ρ : Env) (k : α → Sr) : Sr := match r with
  | .ok a => k a
  | .ex c => .ex c ρ
  | .st => .st
@[simp] theorem bindS_ok {α : Type} (a : α) (ρ : Env) (k : α → Sr) : bindS (.ok a) ρ k = k a := rfl
@[simp] theorem bindS_ex {α : Type} (c : Str) (ρ : Env) (k : α → Sr) : bindS (.ex c) ρ k = .ex c ρ := rfl
@[simp] theorem bindS_st {α : Type} (ρ : Env) (k : α → Sr) : bindS (.st) ρ k = .st := rfl
def SEnd (K : PySem.W.Frag) (mg : Str → Option Value) (W : WX) (own ol : List Nat) (B : Hp) (D : Ends) : Sr → Prop
  | .st => False
  | .nx ρ => ∀ σ H, Sta own B K ρ σ H → D.nx σ H
  | .rt d => ∀ v H A, Same B H → Fu K H v d A → (∀ a ∈ A, B a = none) → D.rt v H
  | .bk ρ => ∀ σ H, Sta ol B K ρ σ H → D.bk σ H
  | .ct ρ => ∀ σ H, Sta ol B K ρ σ H → D.ct σ H
  | .ex c ρ => ∃ C, mg c = some (.ref C) ∧ ∀ σ H, Sta [] B K ρ σ H → W (.ref C) none σ H
def tS (K : PySem.W.Frag) (mg : Str → Option Value) (W : WX) (own own' ol : List Nat) (b : Env → Sr) : TS := fun D σ H => ∃ B ρ, Sta own B K ρ σ H ∧ SEnd K mg W own' ol B D (b ρ)
structure VS (X : Cx) (W : WX) (own own' ol : List Nat) (st : Stmt) (b : Env → Sr) : Prop where
  ps : PS X st (tS X.K X.mg W own own' ol b)
structure VSs (X : Cx) (W : WX) (own own' ol : List Nat) (st : List Stmt) (b : Env → Sr) : Prop where
  ps : PSs X st (tS X.K X.mg W own own' ol b)
section
variable {K : PySem.W.Frag} {mg : Str → Option Value} {W : WX} {own own' own'' ol : List Nat} {B B' : Hp} {D E : Ends} {r : Sr}
theorem SEnd.up (h : SEnd K mg W own ol B D r) (s : Same B B') : SEnd K mg W own ol B' D r := by
  cases r with
  | st => exact h
  | nx ρ => exact fun σ H x => h σ H (x.down s)
  | rt d => exact fun v H A b f n => h v H A (s.trans b) f fun a m => s.free (n a m)
  | bk ρ => exact fun σ H x => h σ H (x.down s)
  | ct ρ => exact fun σ H x => h σ H (x.down s)
  | ex c ρ => obtain ⟨C, h1, h2⟩ := h; exact ⟨C, h1, fun σ H x => h2 σ H (x.down s)⟩
/-- from an expression's outcome to a statement's -/
theorem SEnd.out {α : Type} {x : R α} {ρ : Env} {k : α → Sr} {σ : L2.St} {H : Hp} (st : Sta own' B K ρ σ H) (h : SEnd K mg W own ol B D (bindS x ρ k)) : Out mg W σ H x fun a => SEnd K mg W own ol B D (k a) := by
  cases x with
  | st => exact h
  | ok a => exact h
  | ex c => obtain ⟨C, h1, h2⟩ := h; exact ⟨C, h1, fun H' s => h2 σ H' ((st.grow s).weak fun _ z => nomatch z)⟩
theorem SEnd.weak (h : SEnd K mg W own' ol B D r) (w : ∀ i ∈ own', i ∈ own) : SEnd K mg W own ol B D r := by
  cases r with
  | nx ρ => exact fun σ H x => h σ H (x.weak w)
  | st => exact h
  | rt d => exact h
  | bk ρ => exact h
  | ct ρ => exact h
  | ex c ρ => exact h
end
def seqS (a b : Env → Sr) (ρ : Env) : Sr := match a ρ with
  | .nx ρ' => b ρ'
  | r => r
def nilS (ρ : Env) : Sr := .nx ρ
def asgS (i : Nat) (f : Env → R D) (ρ : Env) : Sr := bindS (f ρ) ρ fun d => .nx (ρ.set i (some d))
def retS (f : Env → R D) (ρ : Env) : Sr := bindS (f ρ) ρ .rt
def retNS (_ : Env) : Sr := .rt .non
def retV (i : Nat) (ρ : Env) : Sr := match ρ[i]? with
  | some (some d) => .rt d
  | _ => .st
def ifS (t : Env → R Bool) (a b : Env → Sr) (ρ : Env) : Sr := bindS (t ρ) ρ fun c => if c = true then a ρ else b ρ
def exprS (f : Env → R D) (ρ : Env) : Sr := bindS (f ρ) ρ fun _ => .nx ρ
def bkS (ρ : Env) : Sr := .bk ρ
def ctS (ρ : Env) : Sr := .ct ρ
def raiseS (c : Str) (ρ : Env) : Sr := .ex c ρ
section
variable {X : Cx} {W : WX} {own own' own'' ol : List Nat} {st : Stmt} {sts : List Stmt} {a b : Env → Sr} {e : Expr} {f g : Env → R D} {pos : Pos}
theorem vs_nil : VSs X W own own ol [] nilS := ⟨pssW pss_nil fun D σ H ⟨B, ρ, x, q⟩ => q σ H x⟩
theorem vs_cons (h1 : VS X W own own' ol st a) (h2 : VSs X W own' own'' ol sts b) : VSs X W own own'' ol (st :: sts) (seqS a b) := ⟨pssW (pss_cons h1.ps h2.ps) fun D σ H ⟨B, ρ, x, q⟩ => ⟨B, ρ, x, by
  unfold seqS at q
  cases e : a ρ with
  | nx ρ' => rw [e] at q; exact fun σ' H' x' => ⟨B, ρ', x', q⟩
  | st => rw [e] at q; exact q
  | rt d => rw [e] at q; exact q
  | bk ρ => rw [e] at q; exact q
  | ct ρ => rw [e] at q; exact q
  | ex c ρ => rw [e] at q; exact q⟩⟩
theorem vs_one (h1 : VS X W own own' ol st a) : VSs X W own own' ol [st] a := ⟨pss_one h1.ps⟩
theorem VSs.weak (h : VSs X W own own' ol sts a) (w : ∀ i ∈ own'', i ∈ own' := by decide) : VSs X W own own'' ol sts a := ⟨pssW h.ps fun D σ H ⟨B, ρ, x, q⟩ => ⟨B, ρ, x, q.weak w⟩⟩
theorem VS.weak (h : VS X W own own' ol st a) (w : ∀ i ∈ own'', i ∈ own' := by decide) : VS X W own own'' ol st a := ⟨psW h.ps fun D σ H ⟨B, ρ, x, q⟩ => ⟨B, ρ, x, q.weak w⟩⟩
/-- fewer slots own ahead of a statement -/
theorem VS.pre (h : VS X W own' own'' ol st a) (w : ∀ i ∈ own', i ∈ own := by decide) : VS X W own own'' ol st a := ⟨psW h.ps fun D σ H ⟨B, ρ, x, q⟩ => ⟨B, ρ, x.weak w, q⟩⟩
theorem VSs.pre (h : VSs X W own' own'' ol sts a) (w : ∀ i ∈ own', i ∈ own := by decide) : VSs X W own own'' ol sts a := ⟨pssW h.ps fun D σ H ⟨B, ρ, x, q⟩ => ⟨B, ρ, x.weak w, q⟩⟩
theorem vs_set (i : Nat) {x : Str} {pos' : Pos} (hN : X.N.Nodup) (hi : X.N[i]? = some x) (hx : Loc X.env.scope x) (he : VG X W e f) (hs : swapsWith e (some (.Name x pos')) pos.line X.env = pure false := by rfl) (hf : X.fn x = true ∨ X.env.scope.names.lookup x = some .local := by first | exact .inl rfl | exact .inr rfl | assumption) :
    VS X W own (i :: own) ol (.Assign [.Name x pos'] e pos) (asgS i f) := ⟨psW (ps_set hN hi hx he.pe hs hf) fun D σ H ⟨B, ρ, x, q⟩ => ⟨ρ, x.env, (SEnd.out x q).mono fun d _ q v H' A s fu n => by
  obtain ⟨S, F, b, y⟩ := x
  exact q _ _ ⟨_, _, b.trans (ext_s []), y.put s fu n i⟩⟩⟩
theorem vs_ret (he : VG X W e f) : VS X W own own' ol (.Return (some e) pos) (retS f) := ⟨psW (ps_ret he.pe) fun D σ H ⟨B, ρ, x, q⟩ => ⟨ρ, x.env, (SEnd.out x q).mono fun d _ q v H' A s fu n => q v H' A (x.base.trans s) fu fun a m => x.base.free (n a m)⟩⟩
theorem vs_retN : VS X W own own' ol (.Return none pos) retNS := ⟨psW ps_retN fun D σ H ⟨B, ρ, x, q⟩ => q .non H [] x.base .non (fun _ z => nomatch z)⟩
theorem vs_retV (i : Nat) {x : Str} {pos' : Pos} (p : PE X (.Name x pos') (tVar i)) (hi : i ∈ own := by decide) : VS X W own own' ol (.Return (some (.Name x pos')) pos) (retV i) := ⟨psW (ps_ret p) fun D σ H ⟨B, ρ, x, q⟩ => by
  unfold retV at q
  split at q
  · rename_i d e
    obtain ⟨S, F, b, y⟩ := x
    obtain ⟨v, h1, h2, _⟩ := y.val i d e
    exact ⟨v, h1, q v H (F i) (b.trans y.sub) (h2 hi) fun a m => b.free (y.out i hi a m).1⟩
  · exact q.elim⟩
theorem vs_if {c : Expr} {t : Env → R Bool} {s1 s2 : List Stmt} (hc : VT X W c t) (h1 : VSs X W own own' ol s1 a) (h2 : VSs X W own own' ol s2 b) : VS X W own own' ol (.If c s1 s2 pos) (ifS t a b) := ⟨psW (ps_if hc.pt h1.ps h2.ps) fun D σ H ⟨B, ρ, x, q⟩ => ⟨ρ, x.env, (SEnd.out x q).mono fun k _ q H' s => by
  cases k with
  | true => exact ⟨B, ρ, x.grow s, q⟩
  | false => exact ⟨B, ρ, x.grow s, q⟩⟩⟩
theorem vs_expr (he : VE X W e f) (hs : swapsWith e none pos.line X.env = pure false := by rfl) : VS X W own own ol (.Expr e pos) (exprS f) := ⟨psW (ps_expr he.pe hs) fun D σ H ⟨B, ρ, x, q⟩ => ⟨ρ, x.env, (SEnd.out x q).mono fun d _ q v H' s _ => q σ H' (x.grow s)⟩⟩
theorem vs_pass : VS X W own own ol (.Pass pos) nilS := ⟨psW ps_pass fun D σ H ⟨B, ρ, x, q⟩ => q σ H x⟩
theorem vs_break (w : ∀ i ∈ ol, i ∈ own := by decide) : VS X W own own' ol (.Break pos) bkS := ⟨psW ps_break fun D σ H ⟨B, ρ, x, q⟩ => q σ H (x.weak w)⟩
theorem vs_continue (w : ∀ i ∈ ol, i ∈ own := by decide) : VS X W own own' ol (.Continue pos) ctS := ⟨psW ps_continue fun D σ H ⟨B, ρ, x, q⟩ => q σ H (x.weak w)⟩
theorem vs_raise {cx : Str} {C : Addr} (hc : X.calm = true) (tk : Takes X W) (he : PMk X e (fun _ H Q => Q (.ref C) none H)) (hm : X.mg cx = some (.ref C)) : VS X W own own' ol (.Raise (some e) none pos) (raiseS cx) := ⟨psW (ps_raise hc tk he) fun D σ H ⟨B, ρ, x, q⟩ => by
  obtain ⟨C', h1, h2⟩ := q
  rw [hm] at h1
  cases h1
  exact h2 σ H (x.weak fun _ z => nomatch z)⟩
end

/-! ### a def -/
def bodyR : Sr → R D
  | .nx _ => .ok .non
  | .rt d => .ok d
  | .ex c _ => .ex c
  | _ => .st
def runB (n : Nat) (b : Env → Sr) (ds : List D) : R D := bodyR (b (ds.map some ++ List.replicate (n - ds.length) none))
section
variable {P : Program} {w : World} {K : PySem.W.Frag} {mg : Str → Option Value} {base : Heap}
theorem start_env {N : List Str} {vs : List V} {ds : List D} {H : Hp} (r : Rds K H vs ds) (hl : vs.length ≤ N.length) : Sta [] H K (ds.map some ++ List.replicate (N.length - ds.length) none) (L2.start N vs) H := by
  refine ⟨H, fun _ => [], Same.refl H, ?_, Same.refl H, fun a o e _ => e, fun i d q => ?_, (fun i m => nomatch m), (fun i m => nomatch m)⟩
  · unfold L2.start
    simp [r.length]
  · rw [List.getElem?_append] at q
    split at q
    · rename_i hi
      rw [List.getElem?_map] at q
      cases e : ds[i]? with
      | none => rw [e] at q; cases q
      | some d' =>
        rw [e] at q
        cases q
        obtain ⟨v, h1, h2⟩ := r.get e
        refine ⟨v, ?_, (fun m => nomatch m), fun _ => h2⟩
        unfold L2.start
        rw [List.getElem?_append_left (by rw [List.length_map, r.length]; simpa using hi), List.getElem?_map, h1]
        rfl
    · rw [List.getElem?_replicate] at q
      split at q <;> cases q
theorem fn_ok {x qual : Str} {st : Stmt} {f : Addr} {fd : FuncData} {N ps : List Str} {k : Nat} {own' : List Nat} {b : Env → Sr} (F : Fun K x qual st f fd) (S : FnScope N ps (defScope st)) (hps : ps.length ≤ N.length)
    (hbody : ∀ (cdv : Value) (A : Around) (outer : List PySem.Env) (s : Shared) (H : Hp) (E : XK), Room k (A.deeper (envOfC qual (defScope st) s.heap.objs.size f cdv)) →
      VSs (cxOf (L2.CX P w) P w K mg base N qual (defScope st) f cdv A outer s H E) (fun cls d _ H => E cls d H) [] own' [] (defBody st) b) :
    FnOk P w K mg base (L2.CX P w) (k + 1) f fd ps (spF K mg ps.length (runB N.length b)) := by
  refine F.okX S (fun vs H Q E h => h.1) (fun cdv A outer s H vs Q E hr h => ?_)
  obtain ⟨hl, ds, r, h⟩ := h
  refine ⟨_, (hbody cdv A outer s H E hr).ps, H, _, start_env r (by rw [hl]; exact hps), ?_⟩
  unfold runB at h
  generalize b (ds.map some ++ List.replicate (N.length - ds.length) none) = q at h
  cases q with
  | st => exact h
  | nx ρ => exact fun σ H' y => h .non H' [] y.base .non (fun _ z => nomatch z)
  | rt d => exact h
  | bk ρ => exact h.elim
  | ct ρ => exact h.elim
  | ex c ρ =>
    obtain ⟨C, h1, h2⟩ := h
    exact ⟨C, h1, fun σ H' y => h2 H' y.base⟩
end
end Vs

namespace Vs
open PySem PySem.Spec PyProof.Rows L2

/-! ### what is walked -/
section
variable {K : PySem.W.Frag} {H H' S S' : Hp} {A : List Addr}
theorem ext_mono (s : Same H H') (sS : Same S H) : Same (ext S H A) (ext S H' A) := fun b o e => by
  unfold ext at e ⊢
  cases q : S b with
  | some u => rw [q] at e; exact e
  | none =>
    rw [q] at e
    cases q' : H b with
    | some u =>
      rw [q'] at e
      rw [s b u q']
      simp only at e ⊢
      split at e
      · rename_i c; rw [if_pos c]; exact e
      · cases e
    | none => rw [q'] at e; cases e
theorem ext_sub (s : Same S S') (sS : Same S' H) : Same (ext S H []) (ext S' H []) := fun b o e => by
  have e' := ext_h (s.trans sS) [] b o e
  unfold ext at e ⊢
  cases q : S b with
  | some u => rw [q] at e; rw [s b u q]; exact e
  | none =>
    rw [q, e'] at e
    simp only at e
    split at e
    · rename_i c
      cases q' : S' b with
      | some u => have := sS b u q'; rw [e'] at this; exact this.symm
      | none => rw [e']; simp only; rw [if_pos c]
    · cases e
/-- at each turn the next of ds, from a heap that keeps S0 -/
def IterOk (K : PySem.W.Frag) (J : It) (S0 : Hp) (ds : List D) : Prop := ∀ (S H : Hp) (i : Nat), Same S0 S → Same S H →
  (∀ d, ds[i]? = some d → J.go i H ∧ ∀ x H', J.yld i H x H' → Same H H' ∧ Rd K (ext S H' []) x d) ∧ (ds.length ≤ i → J.stop i H)
theorem it_list {a : Addr} {vs : List V} {ds : List D} (h : SqL K S a vs) (r : Rds K S vs ds) : IterOk K (Itl K a) S ds := fun S1 H1 i s1 s2 => by
  have hq : SqL K H1 a vs := (s1.trans s2).seq h
  refine ⟨fun d hd => ?_, fun hl => ⟨vs, hq, by rw [r.length]; exact hl⟩⟩
  obtain ⟨v, hv, rv⟩ := r.get hd
  refine ⟨⟨vs, v, hq, hv⟩, fun x H' y => ?_⟩
  obtain ⟨rfl, y⟩ := y
  have e := y vs hq
  rw [hv] at e
  cases e
  exact ⟨Same.refl _, rv.mono (s1.trans (ext_s []))⟩
theorem it_tup {a : Addr} {vs : List V} {ds : List D} (h : SqT K S a vs) (r : Rds K S vs ds) : IterOk K (Itt K a) S ds := fun S1 H1 i s1 s2 => by
  have hq : SqT K H1 a vs := seqT (s1.trans s2) h
  refine ⟨fun d hd => ?_, fun hl => ⟨vs, hq, by rw [r.length]; exact hl⟩⟩
  obtain ⟨v, hv, rv⟩ := r.get hd
  refine ⟨⟨vs, v, hq, hv⟩, fun x H' y => ?_⟩
  obtain ⟨rfl, y⟩ := y
  have e := y vs hq
  rw [hv] at e
  cases e
  exact ⟨Same.refl _, rv.mono (s1.trans (ext_s []))⟩
theorem get_rev {α : Type} {xs : List α} {i : Nat} (h : i < xs.length) : xs[xs.length - 1 - i]? = xs.reverse[i]? := by
  rw [List.getElem?_reverse h]
theorem rds_rev {vs : List V} {ds : List D} (r : Rds K S vs ds) {i : Nat} {d : D} (hd : ds.reverse[i]? = some d) : i < vs.length ∧ ∃ v, vs[vs.length - 1 - i]? = some v ∧ Rd K S v d := by
  have hi : i < ds.length := by
    have := (List.getElem?_eq_some_iff.mp hd).1
    simpa using this
  rw [← get_rev hi] at hd
  obtain ⟨v, hv, rv⟩ := r.get hd
  rw [r.length]
  exact ⟨hi, v, hv, rv⟩
theorem it_revL {a : Addr} {vs : List V} {ds : List D} (h : SqL K S a vs) (r : Rds K S vs ds) : IterOk K (Itv K a vs.length) S ds.reverse := fun S1 H1 i s1 s2 => by
  have hq : SqL K H1 a vs := (s1.trans s2).seq h
  refine ⟨fun d hd => ?_, fun hl => (by rw [List.length_reverse, ← r.length] at hl; exact hl)⟩
  obtain ⟨hi, v, hv, rv⟩ := rds_rev r hd
  refine ⟨⟨hi, vs, v, hq, hv⟩, fun x H' y => ?_⟩
  obtain ⟨rfl, y⟩ := y
  have e := y vs hq
  rw [hv] at e
  cases e
  exact ⟨Same.refl _, rv.mono (s1.trans (ext_s []))⟩
theorem it_revT {a : Addr} {vs : List V} {ds : List D} (h : SqT K S a vs) (r : Rds K S vs ds) : IterOk K (RT.ItvT K a vs.length) S ds.reverse := fun S1 H1 i s1 s2 => by
  have hq : SqT K H1 a vs := seqT (s1.trans s2) h
  refine ⟨fun d hd => ?_, fun hl => (by rw [List.length_reverse, ← r.length] at hl; exact hl)⟩
  obtain ⟨hi, v, hv, rv⟩ := rds_rev r hd
  refine ⟨⟨hi, vs, v, hq, hv⟩, fun x H' y => ?_⟩
  obtain ⟨rfl, y⟩ := y
  have e := y vs hq
  rw [hv] at e
  cases e
  exact ⟨Same.refl _, rv.mono (s1.trans (ext_s []))⟩
def rngL (lo : Int) (n : Nat) : List D := (List.range n).map fun (i : Nat) => D.int (lo + (i : Int))
def rngC (lo c : Int) (n : Nat) : List D := (List.range n).map fun (i : Nat) => D.int (lo + (i : Int) * c)
theorem rngC_get {lo c : Int} {n i : Nat} {d : D} (h : (rngC lo c n)[i]? = some d) : i < n ∧ d = .int (lo + (i : Int) * c) := by
  unfold rngC at h
  rw [List.getElem?_map] at h
  cases e : (List.range n)[i]? with
  | none => rw [e] at h; cases h
  | some j =>
    rw [e] at h
    have q := List.getElem?_eq_some_iff.mp e
    obtain ⟨q1, q2⟩ := q
    rw [List.getElem_range] at q2
    subst q2
    cases h
    exact ⟨by simpa using q1, rfl⟩
theorem rngL_eq (lo : Int) (n : Nat) : rngL lo n = rngC lo 1 n := by unfold rngL rngC; simp
theorem it_rng (lo : Int) (n : Nat) : IterOk K (Itr lo n) S (rngL lo n) := fun S1 H1 i s1 s2 => by
  refine ⟨fun d hd => ?_, fun hl => (show n ≤ i by simpa [rngL] using hl)⟩
  rw [rngL_eq] at hd
  obtain ⟨hi, rfl⟩ := rngC_get hd
  refine ⟨hi, fun x H' y => ?_⟩
  obtain ⟨rfl, rfl⟩ := y
  rw [Int.mul_one]
  exact ⟨Same.refl _, .int _⟩
theorem it_rngC (lo c : Int) (n : Nat) : IterOk K (Itc lo c n) S (rngC lo c n) := fun S1 H1 i s1 s2 => by
  refine ⟨fun d hd => ?_, fun hl => (show n ≤ i by simpa [rngC] using hl)⟩
  obtain ⟨hi, rfl⟩ := rngC_get hd
  refine ⟨hi, fun x H' y => ?_⟩
  obtain ⟨rfl, rfl⟩ := y
  exact ⟨Same.refl _, .int _⟩
def strL (x : Str) : List D := x.cps.toList.map fun c => D.str ⟨#[c]⟩
theorem it_str (x : Str) : IterOk K (Its x) S (strL x) := fun S1 H1 i s1 s2 => by
  refine ⟨fun d hd => ?_, fun hl => (show x.cps.size ≤ i by simpa [strL] using hl)⟩
  unfold strL at hd
  rw [List.getElem?_map, Array.getElem?_toList] at hd
  cases e : x.cps[i]? with
  | none => rw [e] at hd; cases hd
  | some c =>
    rw [e] at hd
    cases hd
    refine ⟨(Array.getElem?_eq_some_iff.mp e).1, fun v H' y => ?_⟩
    obtain ⟨rfl, c', h1, rfl⟩ := y
    rw [e] at h1
    cases h1
    exact ⟨Same.refl _, .str _⟩
def enumL : Nat → List D → List D
  | _, [] => []
  | n, d :: ds => .tup [.int n, d] :: enumL (n + 1) ds
theorem enumL_get : ∀ {ds : List D} {n i : Nat} {d : D}, (enumL n ds)[i]? = some d → ∃ e, ds[i]? = some e ∧ d = .tup [.int ((n + i : Nat) : Int), e]
  | [], n, i, d, h => by simp [enumL] at h
  | x :: ds, n, 0, d, h => by
    simp [enumL] at h
    exact ⟨x, rfl, by rw [← h]; rfl⟩
  | x :: ds, n, i + 1, d, h => by
    simp only [enumL, List.getElem?_cons_succ] at h
    obtain ⟨e, h1, h2⟩ := enumL_get h
    exact ⟨e, by simpa using h1, by rw [h2, show n + 1 + i = n + (i + 1) from by omega]⟩
theorem enumL_length : ∀ {ds : List D} {n : Nat}, (enumL n ds).length = ds.length
  | [], _ => rfl
  | x :: ds, n => by simp [enumL, enumL_length]
theorem it_enum {a : Addr} {vs : List V} {ds : List D} (h : SqL K S a vs) (r : Rds K S vs ds) : IterOk K (Ite K a) S (enumL 0 ds) := fun S1 H1 i s1 s2 => by
  have hq : SqL K H1 a vs := (s1.trans s2).seq h
  refine ⟨fun d hd => ?_, fun hl => ⟨vs, hq, by rw [r.length, ← enumL_length (ds := ds) (n := 0)]; exact hl⟩⟩
  obtain ⟨e, h1, rfl⟩ := enumL_get hd
  obtain ⟨v, hv, rv⟩ := r.get h1
  refine ⟨⟨vs, v, hq, hv⟩, fun x H' y => ?_⟩
  obtain ⟨T, u, rfl, hT, rfl, y⟩ := y
  have e := y vs hq
  rw [hv] at e
  cases e
  have sn : Same H1 (upd H1 T (.tup [.int (i : Nat), v])) := new_same hT
  refine ⟨sn, .tup (SqT.of (ext_stt (s2.trans sn) upd_same trivial)) (.cons ?_ (.cons (rv.mono (s1.trans (ext_s []))) .nil))⟩
  rw [Nat.zero_add]
  exact .int _
def zipL : List D → List D → List D
  | d :: ds, e :: es => .tup [d, e] :: zipL ds es
  | _, _ => []
theorem zipL_get : ∀ {ds es : List D} {i : Nat} {d : D}, (zipL ds es)[i]? = some d → ∃ x y, ds[i]? = some x ∧ es[i]? = some y ∧ d = .tup [x, y]
  | [], _, i, d, h => by simp [zipL] at h
  | _ :: _, [], i, d, h => by simp [zipL] at h
  | x :: ds, y :: es, 0, d, h => by
    simp [zipL] at h
    exact ⟨x, y, rfl, rfl, h.symm⟩
  | x :: ds, y :: es, i + 1, d, h => by
    simp only [zipL, List.getElem?_cons_succ] at h ⊢
    exact zipL_get h
theorem zipL_length : ∀ {ds es : List D}, (zipL ds es).length = min ds.length es.length
  | [], _ => by simp [zipL]
  | _ :: _, [] => by simp [zipL]
  | x :: ds, y :: es => by simp [zipL, zipL_length]
theorem it_zip {a b : Addr} {vs ws : List V} {ds es : List D} (h : SqL K S a vs) (r : Rds K S vs ds) (h' : SqL K S b ws) (r' : Rds K S ws es) : IterOk K (Itz K a b) S (zipL ds es) := fun S1 H1 i s1 s2 => by
  have hq : SqL K H1 a vs := (s1.trans s2).seq h
  have hq' : SqL K H1 b ws := (s1.trans s2).seq h'
  refine ⟨fun d hd => ?_, fun hl => ⟨vs, ws, hq, hq', by rw [r.length, r'.length]; rw [zipL_length] at hl; omega⟩⟩
  obtain ⟨x, y, h1, h2, rfl⟩ := zipL_get hd
  obtain ⟨v, hv, rv⟩ := r.get h1
  obtain ⟨w, hw, rw_⟩ := r'.get h2
  refine ⟨⟨vs, ws, v, w, hq, hq', hv, hw⟩, fun x H' y => ?_⟩
  obtain ⟨T, u, u', rfl, hT, rfl, y, y'⟩ := y
  have e := y vs hq
  rw [hv] at e
  cases e
  have e := y' ws hq'
  rw [hw] at e
  cases e
  have sn : Same H1 (upd H1 T (.tup [v, w])) := new_same hT
  exact ⟨sn, .tup (SqT.of (ext_stt (s2.trans sn) upd_same trivial)) (.cons (rv.mono (s1.trans (ext_s []))) (.cons (rw_.mono (s1.trans (ext_s []))) .nil))⟩
end

/-! ### sources: what they hand out stays -/
def tP (K : PySem.W.Frag) (mg : Str → Option Value) (W : WX) (own : List Nat) (f : Env → R D) : TE := fun σ H Q => ∃ ρ S F, Stx own K S F ρ σ H ∧ Out mg W σ H (f ρ) fun d => ∀ v H' A, Same H H' → (∀ a ∈ A, H a = none) → Rd K (ext S H' A) v d → Q v H'
def tPs (K : PySem.W.Frag) (mg : Str → Option Value) (W : WX) (own : List Nat) (f : Env → R (List D)) : TA := fun σ H Q => ∃ ρ S F, Stx own K S F ρ σ H ∧ Out mg W σ H (f ρ) fun d => ∀ v H' A, Same H H' → (∀ a ∈ A, H a = none) → Rds K (ext S H' A) v d → Q v H'
structure VP (X : Cx) (W : WX) (own : List Nat) (e : Expr) (f : Env → R D) : Prop where
  pe : PE X e (tP X.K X.mg W own f)
structure VPs (X : Cx) (W : WX) (own : List Nat) (e : List Expr) (f : Env → R (List D)) : Prop where
  pa : PA X e (tPs X.K X.mg W own f)
def tI (K : PySem.W.Frag) (mg : Str → Option Value) (W : WX) (own : List Nat) (f : Env → R (List D)) : TI := fun σ H R => ∃ ρ S F, Stx own K S F ρ σ H ∧ Out mg W σ H (f ρ) fun ds => ∀ J H' A, Same H H' → (∀ a ∈ A, H a = none) → IterOk K J (ext S H' A) ds → R J H'
structure VI (X : Cx) (W : WX) (own : List Nat) (tg iter : Expr) (f : Env → R (List D)) : Prop where
  pi : PI X tg iter (tI X.K X.mg W own f)
theorem piW {X : Cx} {tg e : Expr} {t u : TI} (h : PI X tg e t) (q : ∀ σ H Q, u σ H Q → t σ H Q) : PI X tg e u := ⟨fun pins s σ H Q I x => h.run pins s σ H Q I (q σ H Q x)⟩
theorem piOr {X : Cx} {tg e : Expr} {t u : TI} (h : PI X tg e t) (h' : PI X tg e u) : PI X tg e (fun σ H R => t σ H R ∨ u σ H R) := ⟨fun pins s σ H R I x => x.elim (h.run pins s σ H R I) (h'.run pins s σ H R I)⟩
section
variable {X : Cx} {W : WX} {own : List Nat} {e a b c tg : Expr} {es : List Expr} {f g : Env → R D} {fs : Env → R (List D)} {x : Str} {p pos : Pos}
theorem vp_var (i : Nat) (q : PE X (.Name x pos) (tVar i)) (hi : i ∉ own := by decide) : VP X W own (.Name x pos) (varE i) := ⟨peW q fun σ H Q ⟨ρ, S, F, st, o⟩ => by
  unfold varE at o
  split at o
  · rename_i d e
    obtain ⟨v, h1, _, h2⟩ := st.val i d e
    exact ⟨v, h1, o v H [] (Same.refl H) (fun _ z => nomatch z) ((h2 hi).mono (ext_s _))⟩
  · exact o.elim⟩
theorem VG.vp (v : VG X W e f) : VP X W own e f := ⟨peW v.pe fun σ H Q ⟨ρ, S, F, st, o⟩ => ⟨ρ, st.env, o.mono fun d _ q v H' A s fu n => q v H' A s n (fu.ext (st.sub.trans s) fun _ m => m)⟩⟩
theorem vp_ix (ha : VP X W own a f) (hb : VE X W b g) (hs : PlainIx b) : VP X W own (.Subscript a b pos) (op2 ixD f g) :=
  ⟨peW (pe_ix ix_seq ha.pe hb.pe hs) fun σ H Q ⟨ρ, S, F, st, o⟩ => ⟨ρ, S, F, st, (Out.bind o).mono fun d _ q v H1 A s1 n1 r1 => ⟨ρ, st.env.mono s1, ((Out.bind q).up s1).mono fun e _ q w H2 s2 r2 => by
    have sS : Same S H2 := st.sub.trans (s1.trans s2)
    have r1 := r1.mono (ext_mono (A := A) s2 (st.sub.trans s1))
    unfold ixD at q
    split at q
    · split at q
      · rename_i hx
        cases r2
        cases r1 with
        | lst h1 r1 =>
          obtain ⟨u, hu, ru⟩ := atI_rd r1 hx
          exact .inl ⟨_, _, _, u, rfl, rfl, (ext_h sS A).seq h1, hu, q u H2 A (s1.trans s2) n1 ru⟩
      · exact q.elim
    · split at q
      · rename_i hx
        cases r2
        cases r1 with
        | tup h1 r1 =>
          obtain ⟨u, hu, ru⟩ := atI_rd r1 hx
          exact .inr (.inl ⟨_, _, _, u, rfl, rfl, seqT (ext_h sS A) h1, hu, q u H2 A (s1.trans s2) n1 ru⟩)
      · exact q.elim
    · split at q
      · rename_i hz
        split at q
        · rename_i hx
          cases r2
          cases r1
          exact .inr (.inr ⟨_, _, _, rfl, rfl, hz, hx, q _ H2 A (s1.trans s2) n1 (.str _)⟩)
        · exact q.elim
      · exact q.elim
    · exact q.elim⟩⟩⟩
theorem vps_nil : VPs X W own [] nilA := ⟨paW pa_nil fun σ H Q ⟨ρ, S, F, st, o⟩ => o [] H [] (Same.refl H) (fun _ z => nomatch z) .nil⟩
theorem vps_cons (ha : VP X W own e f) (hr : VPs X W own es fs) (hs : starEach (e :: es) X.env = (false, eval e X.env) :: starEach es X.env := by rfl) : VPs X W own (e :: es) (consA f fs) :=
  ⟨paW (pa_cons ha.pe hr.pa hs) fun σ H Q ⟨ρ, S, F, st, o⟩ => ⟨ρ, S, F, st, (Out.bind o).mono fun d _ q v H1 A s1 n1 r1 => ⟨ρ, ext S H1 A, F, st.grow s1 n1, ((Out.bind q).up s1).mono fun ds _ q vs H2 B s2 n2 r2 => by
    have k1 : Same (ext (ext S H1 A) H2 B) (ext S H2 (A ++ B)) := fun b o hb => by
      have hb2 := ext_h (S := ext S H1 A) ((ext_h (st.sub.trans s1) A).trans s2) B b o hb
      unfold ext at hb ⊢
      cases q1 : S b with
      | some u => rw [q1] at hb; exact hb
      | none =>
        rw [q1] at hb
        simp only at hb ⊢
        rw [hb2] at hb ⊢
        simp only at hb ⊢
        cases q2 : H1 b with
        | none =>
          rw [q2] at hb
          simp only at hb
          split at hb
          · rename_i c; rw [if_pos (c.imp id fun z => List.mem_append_right _ z)]
          · cases hb
        | some u =>
          rw [q2] at hb
          simp only at hb
          by_cases c : Stt u ∨ b ∈ A
          · have eu : u = o := by
              have := s2 b u q2
              rw [hb2] at this
              exact (Option.some.inj this).symm
            subst eu
            rw [if_pos (c.imp id fun z => List.mem_append_left _ z)]
          · rw [if_neg c] at hb
            simp only at hb
            split at hb
            · rename_i c; rw [if_pos (c.imp id fun z => List.mem_append_right _ z)]
            · cases hb
    exact q (v :: vs) H2 (A ++ B) (s1.trans s2) (fun x hx => (List.mem_append.mp hx).elim (fun z => n1 x z) fun z => s1.free (n2 x z)) (.cons (r1.mono ((ext_s B).trans k1)) (r2.mono k1))⟩⟩⟩

/-! ### iterables -/
def itV (g : D → R (List D)) (f : Env → R D) (ρ : Env) : R (List D) := (f ρ).bind g
def itR (g : List D → R (List D)) (f : Env → R (List D)) (ρ : Env) : R (List D) := (f ρ).bind g
def revR : D → R (List D)
  | .lst xs => .ok xs.reverse
  | .tup xs => .ok xs.reverse
  | _ => .st
def enumR : List D → R (List D)
  | [.lst xs] => .ok (enumL 0 xs)
  | _ => .st
def zipR : List D → R (List D)
  | [.lst xs, .lst ys] => .ok (zipL xs ys)
  | _ => .st
def itemsR : D → R (List D)
  | .lst xs => .ok xs
  | .tup xs => .ok xs
  | .str x => .ok (strL x)
  | _ => .st
theorem vi_seq (ha : VP X W own a f) : VI X W own tg a (itV itemsR f) := ⟨piW (piOr (pi_list ha.pe) (piOr (pi_tup ha.pe) (pi_str ha.pe))) fun σ H Q ⟨ρ, S, F, st, o⟩ => by
  have o := Out.bind o
  cases hd : f ρ with
  | ok d =>
    rw [hd] at o
    have o : Out X.mg W σ H (itemsR d) _ := o
    cases d with
    | lst xs =>
      refine .inl ⟨ρ, S, F, st, ?_⟩
      rw [hd]
      intro v H' A s n r
      cases r with
      | lst h r => exact ⟨_, rfl, ⟨_, (ext_h (st.sub.trans s) A).seq h⟩, o _ H' A s n (it_list h r)⟩
    | tup xs =>
      refine .inr (.inl ⟨ρ, S, F, st, ?_⟩)
      rw [hd]
      intro v H' A s n r
      cases r with
      | tup h r => exact ⟨_, rfl, ⟨_, seqT (ext_h (st.sub.trans s) A) h⟩, o _ H' A s n (it_tup h r)⟩
    | str x =>
      refine .inr (.inr ⟨ρ, S, F, st, ?_⟩)
      rw [hd]
      intro v H' A s n r
      cases r
      exact ⟨x, rfl, o _ H' A s n (it_str x)⟩
    | _ => exact o.elim
  | ex c =>
    rw [hd] at o
    refine .inl ⟨ρ, S, F, st, ?_⟩
    rw [hd]
    exact o
  | st => rw [hd] at o; exact o.elim⟩
theorem vi_rev (hg : Gl X "reversed") (hm : X.mg "reversed" = none) (ha : VP X W own a f) (hs : starEach [a] X.env = (false, eval a X.env) :: starEach [] X.env := by rfl) :
    VI X W own tg (.Call (.Name "reversed" p) [a] [] pos) (itV revR f) :=
  ⟨piW (RT.pi_revA hg hm ha.pe hs) fun σ H Q ⟨ρ, S, F, st, o⟩ => ⟨ρ, S, F, st, (Out.bind o).mono fun d _ q v H' A s n r => by
    cases r with
    | lst h r => exact ⟨_, _, rfl, .inl ⟨(ext_h (st.sub.trans s) A).seq h, q _ H' A s n (it_revL h r)⟩⟩
    | tup h r => exact ⟨_, _, rfl, .inr ⟨seqT (ext_h (st.sub.trans s) A) h, q _ H' A s n (it_revT h r)⟩⟩
    | _ => exact q.elim⟩⟩
def bnd (i : Int) : Prop := -(2 ^ 62) ≤ i ∧ i < 2 ^ 62
instance (i : Int) : Decidable (bnd i) := inferInstanceAs (Decidable (_ ∧ _))
def rng1 : List D → R (List D)
  | [.int j] => if bnd j then .ok (rngL 0 j.toNat) else .st
  | _ => .st
def rng2 : List D → R (List D)
  | [.int i, .int j] => if bnd i ∧ bnd j then .ok (rngL i (j - i).toNat) else .st
  | _ => .st
/-- how many turns a range has -/
def rngN (i j c : Int) : Nat := if 0 < c then ((j - i + c - 1) / c).toNat else if c < 0 then ((i - j - c - 1) / (-c)).toNat else 0
def rng3 : List D → R (List D)
  | [.int i, .int j, .int c] => if bnd i ∧ bnd j ∧ c ≠ 0 ∧ c.natAbs < 1073741824 then .ok (rngC i c (rngN i j c)) else .st
  | _ => .st
theorem vi_rng1 (hg : Gl X "range") (hm : X.mg "range" = none) (ha : VA X W [a] fs) (hs : starEach [a] X.env = [(false, eval a X.env)] := by rfl) : VI X W own tg (.Call (.Name "range" p) [a] [] pos) (itR rng1 fs) :=
  ⟨piW (pi_range1 hg hm ha.pa hs) fun σ H Q ⟨ρ, S, F, st, o⟩ => ⟨ρ, st.env, (Out.bind o).mono fun ds _ q vs H' s r => by
    unfold rng1 at q
    split at q
    · obtain ⟨v, rfl, h1⟩ := rds1 r
      split at q
      · rename_i c
        cases h1
        exact ⟨_, rfl, c.1, c.2, q _ H' [] s (fun _ z => nomatch z) (it_rng 0 _)⟩
      · exact q.elim
    · exact q.elim⟩⟩
theorem vi_rng2 (hg : Gl X "range") (hm : X.mg "range" = none) (ha : VA X W [a, b] fs) (hs : starEach [a, b] X.env = [(false, eval a X.env), (false, eval b X.env)] := by rfl) (hs2 : starEach [b] X.env = [(false, eval b X.env)] := by rfl) :
    VI X W own tg (.Call (.Name "range" p) [a, b] [] pos) (itR rng2 fs) :=
  ⟨piW (pi_range2 hg hm ha.pa hs hs2) fun σ H Q ⟨ρ, S, F, st, o⟩ => ⟨ρ, st.env, (Out.bind o).mono fun ds _ q vs H' s r => by
    unfold rng2 at q
    split at q
    · obtain ⟨v, w, rfl, h1, h2⟩ := rds2 r
      split at q
      · rename_i c
        cases h1
        cases h2
        exact ⟨_, _, rfl, ⟨c.1.1, c.1.2, c.2.1, c.2.2⟩, q _ H' [] s (fun _ z => nomatch z) (it_rng _ _)⟩
      · exact q.elim
    · exact q.elim⟩⟩
theorem vi_enum {elts : List Expr} {kk : Nat} {tpos : Pos} (hg : Gl X "enumerate") (hm : X.mg "enumerate" = none) (ha : VPs X W own [a] fs) (hs : starEach [a] X.env = [(false, eval a X.env)] := by rfl) :
    VI X W own (.Tuple elts kk tpos) (.Call (.Name "enumerate" p) [a] [] pos) (itR enumR fs) :=
  ⟨piW (pi_enum hg hm ha.pa hs) fun σ H Q ⟨ρ, S, F, st, o⟩ => ⟨ρ, S, F, st, (Out.bind o).mono fun ds _ q vs H' A s n r => by
    unfold enumR at q
    split at q
    · obtain ⟨v, rfl, h1⟩ := rds1 r
      cases h1 with
      | lst h r => exact ⟨_, _, rfl, (ext_h (st.sub.trans s) A).seq h, q _ H' A s n (it_enum h r)⟩
    · exact q.elim⟩⟩
theorem vi_zip {elts : List Expr} {kk : Nat} {tpos : Pos} (hg : Gl X "zip") (hm : X.mg "zip" = none) (ha : VPs X W own [a, b] fs) (hs : starEach [a, b] X.env = (false, eval a X.env) :: starEach [b] X.env := by rfl) (hpl : (backTo pos (starEach [b] X.env)).any (·.1) = false := by rfl) :
    VI X W own (.Tuple elts kk tpos) (.Call (.Name "zip" p) [a, b] [] pos) (itR zipR fs) :=
  ⟨piW (pi_zip hg hm ha.pa hs hpl) fun σ H Q ⟨ρ, S, F, st, o⟩ => ⟨ρ, S, F, st, (Out.bind o).mono fun ds _ q vs H' A s n r => by
    unfold zipR at q
    split at q
    · obtain ⟨v, w, rfl, h1, h2⟩ := rds2 r
      cases h1 with
      | lst h r1 =>
        cases h2 with
        | lst h' r' => exact ⟨_, _, _, _, rfl, (ext_h (st.sub.trans s) A).seq h, (ext_h (st.sub.trans s) A).seq h', q _ H' A s n (it_zip h r1 h' r')⟩
    · exact q.elim⟩⟩
end
end Vs

namespace Vs
open PySem PySem.Spec PyProof.Rows L2

/-! ### targets of a loop -/
def TgOk (X : Cx) (own slots : List Nat) (g : TG) (tf : D → Env → Option Env) : Prop := ∀ (S : Hp) (F : Nat → List Addr) (ρ : Env) (σ : L2.St) (H : Hp) (x : V) (d : D) (ρ' : Env), Stx own X.K S F ρ σ H → Rd X.K S x d → tf d ρ = some ρ' →
  ∀ Q : L2.St → Hp → Prop, (∀ σ', Stx own X.K S F ρ' σ' H → (∀ k, k ∉ slots → σ'[k]? = σ[k]?) → σ'.length = σ.length → Q σ' H) → g x σ H Q
structure VG' (X : Cx) (own slots : List Nat) (tg : Expr) (tf : D → Env → Option Env) : Prop where
  ex : ∃ g, PG X tg g ∧ TgOk X own slots g tf
def tgN (i : Nat) (d : D) (ρ : Env) : Option Env := some (ρ.set i (some d))
def tgT (i j : Nat) (d : D) (ρ : Env) : Option Env := match d with
  | .tup [a, b] => some ((ρ.set i (some a)).set j (some b))
  | _ => none
section
variable {X : Cx} {own : List Nat} {pos : Pos}
theorem tg_name (i : Nat) {x : Str} (p : PG X (.Name x pos) (gName i)) (hi : i ∉ own := by decide) : VG' X own [i] (.Name x pos) (tgN i) := ⟨_, p, fun S F ρ σ H v d ρ' st r e Q q => by
  cases e
  refine q _ (st.lay hi r) (fun k hk => ?_) (by rw [List.length_set])
  rw [List.getElem?_set_ne fun e => hk (List.mem_singleton.mpr e.symm)]⟩
theorem tg_tup (i j : Nat) {es : List Expr} {kk : Nat} (p : PG X (.Tuple es kk pos) (gTup X.K 2 (gCons (gName i) (gCons (gName j) gNil)))) (hi : i ∉ own := by decide) (hj : j ∉ own := by decide) : VG' X own [i, j] (.Tuple es kk pos) (tgT i j) := ⟨_, p, fun S F ρ σ H v d ρ' st r e Q q => by
  unfold tgT at e
  split at e
  · cases e
    cases r with
    | tup h r =>
      obtain ⟨v, w, rfl, h1, h2⟩ := rds2 r
      refine ⟨_, _, rfl, seqT st.sub h, rfl, v, [w], rfl, w, [], rfl, rfl, ?_⟩
      refine q _ ((st.lay hi h1).lay hj h2) (fun k hk => ?_) (by rw [List.length_set, List.length_set])
      rw [List.getElem?_set_ne fun e => hk (by simp [e]), List.getElem?_set_ne fun e => hk (by simp [e])]
  · cases e⟩
end

/-! ### for -/
def forL (tf : D → Env → Option Env) (b : Env → Sr) : List D → Env → Sr
  | [], ρ => .nx ρ
  | d :: ds, ρ => match tf d ρ with
    | none => .st
    | some ρ1 => match b ρ1 with
      | .nx ρ2 => forL tf b ds ρ2
      | .ct ρ2 => forL tf b ds ρ2
      | .bk ρ2 => .nx ρ2
      | r => r
def forS (fi : Env → R (List D)) (tf : D → Env → Option Env) (b : Env → Sr) (ρ : Env) : Sr := bindS (fi ρ) ρ fun ds => forL tf b ds ρ
section
variable {X : Cx} {W : WX} {own own' own'' ol slots : List Nat} {tg iter : Expr} {body : List Stmt} {fi : Env → R (List D)} {tf : D → Env → Option Env} {b : Env → Sr} {pos : Pos}
theorem vs_for (hp : PassesOwn (model X.prog X.w) X.A X.env X.xe) (hc : X.calm = true) (hi : VI X W own tg iter fi) (hg : VG' X own slots tg tf) (hb : VSs X W own own own body b)
    (hs : ∀ x, foldedSetIterable iter X.env x = pure x := by intro _; rfl) : VS X W own own ol (.For tg iter body [] pos) (forS fi tf b) := by
  obtain ⟨g, pg, tk⟩ := hg
  refine ⟨psW (ps_for hp hc hi.pi pg hb.ps hs) fun D σ H ⟨B, ρ, x, q⟩ => ?_⟩
  have q0 := SEnd.out x q
  obtain ⟨S, F, bS, st⟩ := x
  refine ⟨ρ, S, F, st, q0.mono fun ds _ q J H1 A s1 n1 it => ?_⟩
  have st1 := st.grow s1 n1
  generalize hB : ext S H1 A = B1 at it st1
  have sB : Same B B1 := by rw [← hB]; exact bS.trans (ext_s A)
  refine ⟨fun i m σ H => m = ds.length - i ∧ i ≤ ds.length ∧ ∃ ρ, Sta own B1 X.K ρ σ H ∧ SEnd X.K X.mg W own ol B1 D (forL tf b (ds.drop i) ρ), ⟨ds.length, by simp, Nat.zero_le _, ρ, ⟨B1, F, Same.refl _, st1⟩, q.up sB⟩, ?_⟩
  rintro i m σ2 H2 ⟨rfl, hi, ρ2, ⟨S2, F2, b2, x2⟩, q2⟩
  obtain ⟨go, stop⟩ := it S2 H2 i b2 x2.sub
  by_cases hlt : i < ds.length
  · obtain ⟨g1, g2⟩ := go ds[i] (List.getElem?_eq_getElem hlt)
    refine .inr ⟨g1, fun σ' H' => ∃ ρ', Sta own B1 X.K ρ' σ' H' ∧ SEnd X.K X.mg W own ol B1 D (forL tf b (ds.drop (i + 1)) ρ'), fun σ' H' ⟨ρ', y, z⟩ => ⟨ds.length - (i + 1), by omega, rfl, hlt, ρ', y, z⟩, fun v H3 y => ?_⟩
    obtain ⟨s3, r3⟩ := g2 v H3 y
    rw [List.drop_eq_getElem_cons hlt] at q2
    unfold forL at q2
    cases e : tf ds[i] ρ2 with
    | none => rw [e] at q2; exact q2.elim
    | some ρ3 =>
      rw [e] at q2
      simp only at q2
      refine tk _ _ ρ2 σ2 H3 v _ ρ3 (x2.grow s3 (A := []) (fun _ z => nomatch z)) r3 e _ fun σ4 x4 _ _ => ?_
      refine ⟨B1, ρ3, ⟨_, _, b2.trans (ext_s []), x4⟩, ?_⟩
      cases eb : b ρ3 with
      | nx ρ5 => rw [eb] at q2; exact fun σ' H' z => ⟨ρ5, z, q2⟩
      | ct ρ5 => rw [eb] at q2; exact fun σ' H' z => ⟨ρ5, z, q2⟩
      | bk ρ5 => rw [eb] at q2; exact q2
      | rt d => rw [eb] at q2; exact q2
      | st => rw [eb] at q2; exact q2
      | ex c ρ5 => rw [eb] at q2; exact q2
  · have e : i = ds.length := by omega
    subst e
    rw [List.drop_length] at q2
    exact .inl ⟨stop (Nat.le_refl _), q2 σ2 H2 ⟨S2, F2, b2, x2⟩⟩

/-! ### while -/
def whileL (t : Env → R Bool) (b : Env → Sr) : Nat → Env → Sr
  | 0, _ => .st
  | n + 1, ρ => bindS (t ρ) ρ fun c => if c = true then (match b ρ with
      | .nx ρ2 => whileL t b n ρ2
      | .ct ρ2 => whileL t b n ρ2
      | .bk ρ2 => .nx ρ2
      | r => r) else .nx ρ
open Classical in
noncomputable def whileS (t : Env → R Bool) (b : Env → Sr) (ρ : Env) : Sr := if h : ∃ n, whileL t b n ρ ≠ .st then whileL t b (Classical.choose h) ρ else .st
theorem whileL_more {t : Env → R Bool} {b : Env → Sr} : ∀ {n : Nat} {ρ : Env}, whileL t b n ρ ≠ .st → ∀ k, whileL t b (n + k) ρ = whileL t b n ρ
  | 0, ρ, h, k => absurd rfl h
  | n + 1, ρ, h, k => by
    rw [Nat.add_right_comm]
    unfold whileL at h ⊢
    cases e : t ρ with
    | ok c =>
      rw [e] at h
      simp only [bindS_ok] at h ⊢
      cases c with
      | false => rfl
      | true =>
        rw [if_pos rfl] at h ⊢
        cases eb : b ρ with
        | nx ρ2 => rw [eb] at h; exact whileL_more h k
        | ct ρ2 => rw [eb] at h; exact whileL_more h k
        | _ => rfl
    | _ => rfl
theorem whileS_eq {t : Env → R Bool} {b : Env → Sr} {n : Nat} {ρ : Env} (h : whileL t b n ρ ≠ .st) : whileS t b ρ = whileL t b n ρ := by
  have hx : ∃ n, whileL t b n ρ ≠ .st := ⟨n, h⟩
  unfold whileS
  rw [dif_pos hx]
  have h2 := Classical.choose_spec hx
  generalize Classical.choose hx = m at h2
  have a1 := whileL_more h m
  have a2 := whileL_more h2 n
  rw [Nat.add_comm] at a2
  exact a2.symm.trans a1
theorem vs_while {c : Expr} {t : Env → R Bool} (hp : PassesOwn (model X.prog X.w) X.A X.env X.xe) (hc : VT X W c t) (hb : VSs X W own own own body b) : VS X W own own ol (.While c body [] pos) (whileS t b) := ⟨psW (ps_while hp hc.pt hb.ps) fun D σ H ⟨B, ρ, x, q⟩ => by
  unfold whileS at q
  split at q
  · rename_i h
    generalize Classical.choose h = n at q
    refine ⟨fun m σ H => ∃ ρ, Sta own B X.K ρ σ H ∧ SEnd X.K X.mg W own ol B D (whileL t b m ρ), ⟨n, ρ, x, q⟩, fun m σ2 H2 ⟨ρ2, x2, q2⟩ => ?_⟩
    cases m with
    | zero => exact q2.elim
    | succ m =>
      unfold whileL at q2
      refine ⟨ρ2, x2.env, (SEnd.out x2 q2).mono fun k _ q3 H3 s3 => ?_⟩
      cases k with
      | false => exact q3 σ2 H3 (x2.grow s3)
      | true =>
        refine ⟨fun σ' H' => ∃ ρ', Sta own B X.K ρ' σ' H' ∧ SEnd X.K X.mg W own ol B D (whileL t b m ρ'), fun σ' H' ⟨ρ', y, z⟩ => ⟨m, Nat.lt_succ_self _, ρ', y, z⟩, B, ρ2, x2.grow s3, ?_⟩
        rw [if_pos rfl] at q3
        cases eb : b ρ2 with
        | nx ρ5 => rw [eb] at q3; exact fun σ' H' z => ⟨ρ5, z, q3⟩
        | ct ρ5 => rw [eb] at q3; exact fun σ' H' z => ⟨ρ5, z, q3⟩
        | bk ρ5 => rw [eb] at q3; exact q3
        | rt d => rw [eb] at q3; exact q3
        | st => rw [eb] at q3; exact q3
        | ex c ρ5 => rw [eb] at q3; exact q3
  · exact q.elim⟩
end

/-! ### comprehensions -/
def wipeD (ρ : Env) : List Nat → Env
  | [] => ρ
  | v :: vs => (wipeD ρ vs).set v none
theorem wipeD_some {ρ : Env} {i : Nat} {x : D} : ∀ {vs : List Nat}, (wipeD ρ vs)[i]? = some (some x) → ρ[i]? = some (some x) ∧ i ∉ vs
  | [], h => ⟨h, by simp⟩
  | v :: vs, h => by
    unfold wipeD at h
    rcases get_set h with ⟨_, e, _⟩ | ⟨ne, h⟩
    · cases e
    · obtain ⟨h1, h2⟩ := wipeD_some h
      exact ⟨h1, by simp only [List.mem_cons, not_or]; exact ⟨ne, h2⟩⟩
theorem wipeD_length (ρ : Env) : ∀ vs : List Nat, (wipeD ρ vs).length = ρ.length
  | [] => rfl
  | v :: vs => by unfold wipeD; rw [List.length_set, wipeD_length ρ vs]
theorem wipe_eq {σ τ : L2.St} (hl : σ.length = τ.length) : ∀ {vs : List Nat}, (∀ k, k ∉ vs → σ[k]? = τ[k]?) → wipe σ vs = wipe τ vs := by
  intro vs h
  have in_ : ∀ (σ : L2.St) (vs : List Nat) (k : Nat), k ∈ vs → k < σ.length → (wipe σ vs)[k]? = some none := by
    intro σ vs
    induction vs with
    | nil => intro k hk; cases hk
    | cons v vs ih =>
      intro k hk hl
      unfold wipe
      by_cases e : v = k
      · subst e
        rw [List.getElem?_set_self (by rw [wipe_length]; exact hl)]
      · rw [List.getElem?_set_ne e]
        exact ih k ((List.mem_cons.mp hk).resolve_left (Ne.symm e)) hl
  apply List.ext_getElem?
  intro k
  by_cases hk : k ∈ vs
  · by_cases hlt : k < σ.length
    · rw [in_ σ vs k hk hlt, in_ τ vs k hk (by omega)]
    · rw [List.getElem?_eq_none (by rw [wipe_length]; omega), List.getElem?_eq_none (by rw [wipe_length]; omega)]
  · rw [wipe_out hk, wipe_out hk, h k hk]
theorem wipe_wipe (σ : L2.St) (vs : List Nat) : wipe (wipe σ vs) vs = wipe σ vs := wipe_eq (wipe_length σ vs) fun k hk => wipe_out hk
/-- nothing raised -/
def nox {α : Type} : R α → R α
  | .ex _ => .st
  | r => r
def lcL (vs : List Nat) (tf : D → Env → Option Env) (t : Env → R Bool) (f : Env → R D) (ρ : Env) : List D → R (List D)
  | [] => .ok []
  | d :: ds => match tf d (wipeD ρ vs) with
    | none => .st
    | some ρ1 => (nox (t ρ1)).bind fun c => if c = true then (nox (f ρ1)).bind fun y => (lcL vs tf t f ρ ds).bind fun r => .ok (y :: r) else lcL vs tf t f ρ ds
def lcE (vs : List Nat) (fi : Env → R (List D)) (tf : D → Env → Option Env) (t : Env → R Bool) (f : Env → R D) (ρ : Env) : R D := (fi ρ).bind fun ds => if ds.length ≤ sizeLine then (lcL vs tf t f ρ ds).bind fun r => .ok (.lst r) else .st
def yesT (_ : Env) : R Bool := .ok true
theorem nox_out {α : Type} {mg : Str → Option Value} {σ : L2.St} {H : Hp} {r : R α} {a : α} {P : α → Prop} (h : nox r = .ok a) (p : P a) : Out mg (fun _ _ _ _ => False) σ H r P := by
  cases r with
  | ok b => cases h; exact p
  | ex c => cases h
  | st => cases h
theorem REnv.stx {K : PySem.W.Frag} {ρ : Env} {σ : L2.St} {H : Hp} (h : REnv K ρ σ H) : Stx [] K H (fun _ => []) ρ σ H :=
  ⟨h.len, Same.refl H, fun _ _ e _ => e, fun i d q => let ⟨v, h1, h2⟩ := h.val i d q; ⟨v, h1, (fun z => nomatch z), fun _ => h2⟩, (fun _ z => nomatch z), (fun _ z => nomatch z)⟩
theorem REnv.wipe {K : PySem.W.Frag} {ρ : Env} {σ : L2.St} {H : Hp} (h : REnv K ρ σ H) (vs : List Nat) : REnv K (wipeD ρ vs) (L2.wipe σ vs) H := ⟨by rw [wipeD_length, wipe_length]; exact h.len, fun i d q => by
  obtain ⟨q1, q2⟩ := wipeD_some q
  obtain ⟨v, h1, h2⟩ := h.val i d q1
  exact ⟨v, (wipe_out q2).trans h1, h2⟩⟩
theorem nox_ne {α : Type} {r : R α} {c : Str} : nox r ≠ .ex c := fun h => by
  cases r with
  | ok a => cases h
  | st => cases h
  | ex d => cases h
theorem lcL_nx {vs : List Nat} {tf : D → Env → Option Env} {t : Env → R Bool} {f : Env → R D} {ρ : Env} : ∀ (ds : List D) (c : Str), lcL vs tf t f ρ ds ≠ .ex c
  | [], c, h => by cases h
  | d :: ds, c, h => by
    unfold lcL at h
    cases e : tf d (wipeD ρ vs) with
    | none => rw [e] at h; cases h
    | some ρ1 =>
      rw [e] at h
      simp only at h
      cases e1 : nox (t ρ1) with
      | ok k =>
        rw [e1, R.bind_ok] at h
        cases k with
        | true =>
          rw [if_pos rfl] at h
          cases e2 : nox (f ρ1) with
          | ok y =>
            rw [e2, R.bind_ok] at h
            cases e3 : lcL vs tf t f ρ ds with
            | ok r => rw [e3] at h; cases h
            | st => rw [e3] at h; cases h
            | ex c => exact lcL_nx ds c e3
          | st => rw [e2] at h; cases h
          | ex c => exact nox_ne e2
        | false =>
          rw [if_neg Bool.false_ne_true] at h
          exact lcL_nx ds c h
      | st => rw [e1] at h; cases h
      | ex c => exact nox_ne e1
section
variable {X : Cx} {W : WX} {own slots vs : List Nat} {tg : Expr} {fi : Env → R (List D)} {tf : D → Env → Option Env} {t : Env → R Bool} {f : Env → R D} {wi : TI} {g : TG} {tt : TT} {te : TE}
/-- the reading of a comprehension whose elements are new -/
theorem tLc_of {K : PySem.W.Frag} {mg : Str → Option Value} (hK : X.K = K) (hmg : X.mg = mg) (hg : TgOk X [] slots g tf) (hv : ∀ k ∈ slots, k ∈ vs) {σ : L2.St} {H : Hp} {Q : VK} (h : tG K mg W (lcE vs fi tf t f) σ H Q) :
    tLc (tI K mg W [] fi) g (tT K mg (fun _ _ _ _ => False) t) (tG K mg (fun _ _ _ _ => False) f) vs σ H Q := by
  subst hK
  subst hmg
  obtain ⟨ρ, re, o⟩ := h
  refine ⟨ρ, H, fun _ => [], re.stx, (Out.bind o).mono fun ds _ q J H1 A s1 n1 it D hD => ?_⟩
  by_cases hz : ds.length ≤ sizeLine
  rotate_left
  · rw [if_neg hz] at q; exact q.elim
  rw [if_pos hz] at q
  have it : IterOk X.K J (ext H H1 A) ds := it
  have re1 : REnv X.K ρ σ H1 := re.mono s1
  -- the invariant
  refine ⟨fun i m H2 => m = ds.length - i ∧ i ≤ ds.length ∧ ∃ acc ys B, Same H1 H2 ∧ H2 D = some (.lst acc) ∧ Fus X.K H2 acc ys B ∧ D ∉ B ∧ (∀ a ∈ B, H1 a = none) ∧ acc.length ≤ i ∧
      ∃ r, lcL vs tf t f ρ (ds.drop i) = .ok r ∧ ∀ v H' A, Same H H' → Fu X.K H' v (.lst (ys ++ r)) A → (∀ a ∈ A, H a = none) → Q v H', ⟨ds.length, by simp, Nat.zero_le _, [], [], [], new_same hD, upd_same, .nil, (fun z => nomatch z), (fun _ z => nomatch z), Nat.le_refl _, ?_⟩, ?_⟩
  · cases e : lcL vs tf t f ρ ds with
    | ok r => rw [e] at q; exact ⟨r, by rw [List.drop_zero]; exact e, q⟩
    | st => rw [e] at q; exact q.elim
    | ex c =>
      exfalso
      exact lcL_nx ds c e
  · rintro i m H2 ⟨rfl, hi, acc, ys, B, s2, hL, fu, nD, nB, hacc, r, hr, q⟩
    have sx : Same (ext H H1 A) H1 := ext_h s1 A
    have sE : Same (ext H H1 A) (ext (ext H H1 A) H2 []) := ext_s []
    have sF : Same (ext (ext H H1 A) H2 []) H2 := ext_h (sx.trans s2) []
    obtain ⟨go, stop⟩ := it _ H2 i sE sF
    by_cases hlt : i < ds.length
    · obtain ⟨g1, g2⟩ := go ds[i] (List.getElem?_eq_getElem hlt)
      refine .inr ⟨g1, fun H' => ∃ acc ys B, Same H1 H' ∧ H' D = some (.lst acc) ∧ Fus X.K H' acc ys B ∧ D ∉ B ∧ (∀ a ∈ B, H1 a = none) ∧ acc.length ≤ i + 1 ∧
        ∃ r, lcL vs tf t f ρ (ds.drop (i + 1)) = .ok r ∧ ∀ v H' A, Same H H' → Fu X.K H' v (.lst (ys ++ r)) A → (∀ a ∈ A, H a = none) → Q v H', fun H' y => ⟨ds.length - (i + 1), by omega, rfl, hlt, y⟩, fun x H3 y => ?_⟩
      obtain ⟨s3, r3⟩ := g2 x H3 y
      rw [List.drop_eq_getElem_cons hlt] at hr
      unfold lcL at hr
      cases e : tf ds[i] (wipeD ρ vs) with
      | none => rw [e] at hr; cases hr
      | some ρ1 =>
        rw [e] at hr
        simp only at hr
        have re3 := ((re1.mono s2).mono s3).wipe vs
        have rx : Rd X.K H3 x ds[i] := r3.mono (ext_h (sF.trans s3) [])
        refine hg H3 (fun _ => []) (wipeD ρ vs) (wipe σ vs) H3 x _ ρ1 re3.stx rx e _ fun σ4 x4 k4 l4 => ⟨?_, ?_⟩
        · rw [wipe_eq (τ := wipe σ vs) l4 fun k hk => k4 k fun z => hk (hv k z), wipe_wipe]
        · have re4 := x4.env
          cases et : nox (t ρ1) with
          | st => rw [et] at hr; cases hr
          | ex c => rw [et] at hr; cases hr
          | ok k =>
            rw [et, R.bind_ok] at hr
            refine ⟨ρ1, re4, nox_out et fun H5 s5 => ?_⟩
            cases k with
            | false =>
              rw [if_neg Bool.false_ne_true] at hr ⊢
              exact ⟨acc, ys, B, (s2.trans s3).trans s5, s5 _ _ (s3 _ _ hL), fu.same (s3.trans s5), nD, nB, Nat.le_succ_of_le hacc, r, hr, q⟩
            | true =>
              rw [if_pos rfl] at hr ⊢
              cases ef : nox (f ρ1) with
              | st => rw [ef] at hr; cases hr
              | ex c => rw [ef] at hr; cases hr
              | ok y =>
                rw [ef, R.bind_ok] at hr
                cases er : lcL vs tf t f ρ (ds.drop (i + 1)) with
                | st => rw [er] at hr; cases hr
                | ex c => rw [er] at hr; cases hr
                | ok r' =>
                  rw [er, R.bind_ok] at hr
                  cases hr
                  refine ⟨ρ1, re4.mono s5, nox_out ef fun v H6 C s6 f6 n6 => ?_⟩
                  have sA : Same H2 H6 := (s3.trans s5).trans s6
                  have hD6 : H6 D = some (.lst acc) := sA _ _ hL
                  have nDC : D ∉ C := fun z => by
                    have := n6 D z
                    rw [s5 _ _ (s3 _ _ hL)] at this
                    cases this
                  have f1 : Fus X.K H6 (acc ++ [v]) (ys ++ [y]) (B ++ (C ++ [])) := (fu.same sA).app (.cons f6 .nil fun _ _ z => nomatch z) fun a ha hb => by
                    rw [List.append_nil] at hb
                    obtain ⟨o, ho⟩ := fu.there a ha
                    have := n6 a hb
                    rw [s5 _ _ (s3 _ _ ho)] at this
                    cases this
                  have nD' : D ∉ B ++ (C ++ []) := fun z => by
                    rw [List.append_nil] at z
                    exact (List.mem_append.mp z).elim nD nDC
                  refine ⟨acc, hD6, Nat.lt_of_le_of_lt hacc (Nat.lt_of_lt_of_le hlt hz), acc ++ [v], ys ++ [y], B ++ (C ++ []), fun b o hb => ?_, upd_same, f1.at (fun a ha => upd_ne fun z => nD' (z ▸ ha)) (fun b xs hq => ?_), nD', fun a ha => ?_, ?_, r', rfl, ?_⟩
                  · rw [upd_ne (ne_of_none hb hD)]
                    exact s6 _ _ (s5 _ _ (s3 _ _ (s2 _ _ hb)))
                  · rcases hq with (hq | ⟨o, hq⟩) | hq
                    · exact .inl (.inl (by rw [upd_ne (fun z => by rw [z, hD6] at hq; cases hq)]; exact hq))
                    · exact .inl (.inr ⟨o, by rw [upd_ne (fun z => by rw [z, hD6] at hq; cases hq)]; exact hq⟩)
                    · exact .inr hq
                  · rw [List.append_nil] at ha
                    rcases List.mem_append.mp ha with z | z
                    · exact nB a z
                    · exact ((s2.trans s3).trans s5).free (n6 a z)
                  · rw [List.length_append, List.length_singleton]; omega
                  · rw [List.append_assoc]; exact q
    · have e : i = ds.length := by omega
      subst e
      rw [List.drop_length] at hr
      cases hr
      refine .inl ⟨stop (Nat.le_refl _), q _ H2 (D :: B) (s1.trans s2) (by rw [List.append_nil]; exact .lst hL fu nD) fun a ha => ?_⟩
      rcases List.mem_cons.mp ha with z | z
      · rw [z]; exact s1.free hD
      · exact s1.free (nB a z)
end
end Vs

namespace Vs
open PySem PySem.Spec PyProof.Rows L2

/-! ### comprehensions as rules -/
abbrev W0 : WX := fun _ _ _ _ => False
structure VTs (X : Cx) (W : WX) (ifs : List Expr) (t : Env → R Bool) : Prop where
  pts : PTs X ifs (tT X.K X.mg W t)
section
variable {X : Cx} {W : WX} {t : Env → R Bool}
theorem ptsW {X : Cx} {e : List Expr} {t u : TT} (h : PTs X e t) (q : ∀ σ H Q, u σ H Q → t σ H Q) : PTs X e u := ⟨fun pins s σ H Q I x => h.run pins s σ H Q I (q σ H Q x)⟩
theorem vts_nil : VTs X W [] yesT := ⟨ptsW pts_nil fun σ H Q ⟨ρ, re, o⟩ => o H (Same.refl H)⟩
theorem vts_one {c : Expr} (h : VT X W c t) : VTs X W [c] t := ⟨pts_one h.pt⟩
end
section
variable {X : Cx} {W : WX} {own0 ol : List Nat} {elt tg iter : Expr} {ifs : List Expr} {scope : Scope} {own : List (Str × Nat)} {slots : List Nat} {pos spos : Pos} {fi : Env → R (List D)} {tf : D → Env → Option Env} {t : Env → R Bool} {f : Env → R D} {g : TG}
theorem vg_lc (hc : X.calm = true) (hN : X.N.Nodup) (hi : VI X W [] tg iter fi) (ok : BlkOk X.N X.env.scope scope own) (tk : TgOk X [] slots g tf)
    (hg : ∀ (s : Shared) (H : Hp) (C : Addr) (cl : List (Str × Addr)) (fp : List Addr), PG (X.blk s H scope (compEnvC scope cl C X.env) fp) tg g)
    (ht : ∀ (s : Shared) (H : Hp) (C : Addr) (cl : List (Str × Addr)) (fp : List Addr), VTs (X.blk s H scope (compEnvC scope cl C X.env) fp) W0 ifs t)
    (he : ∀ (s : Shared) (H : Hp) (C : Addr) (cl : List (Str × Addr)) (fp : List Addr), VG (X.blk s H scope (compEnvC scope cl C X.env) fp) W0 elt f)
    (hv : ∀ k ∈ slots, k ∈ own.map (·.2) := by decide) (hs : ∀ x, foldedSetIterable iter X.env x = pure x := by intro _; rfl) : VG X W (.ListComp elt [⟨tg, iter, ifs, 0⟩] scope pos) (lcE (own.map (·.2)) fi tf t f) :=
  ⟨peW (pe_lc (tt := tT X.K X.mg W0 t) (te := tG X.K X.mg W0 f) hc hN hi.pi ok hg (fun s H C cl fp => (ht s H C cl fp).pts) (fun s H C cl fp => (he s H C cl fp).pe) hs) fun σ H Q q => tLc_of rfl rfl tk hv q⟩
theorem vs_setLc (i : Nat) {y : Str} {py : Pos} (hc : X.calm = true) (hN : X.N.Nodup) (hy : X.N[i]? = some y) (hyl : X.env.scope.names.lookup y = some .local) (hsw : swapsWith (.ListComp elt [⟨tg, iter, ifs, 0⟩] scope pos) (some (.Name y py)) spos.line X.env = pure true)
    (hi : VI X W [] tg iter fi) (ok : BlkOk X.N X.env.scope scope own) (tk : TgOk X [] slots g tf)
    (hg : ∀ (s : Shared) (H : Hp) (C : Addr) (cl : List (Str × Addr)) (fp : List Addr), PG (X.blk s H scope (compEnvC scope cl C X.env) fp) tg g)
    (ht : ∀ (s : Shared) (H : Hp) (C : Addr) (cl : List (Str × Addr)) (fp : List Addr), VTs (X.blk s H scope (compEnvC scope cl C X.env) fp) W0 ifs t)
    (he : ∀ (s : Shared) (H : Hp) (C : Addr) (cl : List (Str × Addr)) (fp : List Addr), VG (X.blk s H scope (compEnvC scope cl C X.env) fp) W0 elt f)
    (hv : ∀ k ∈ slots, k ∈ own.map (·.2) := by decide) (hs : ∀ x, foldedSetIterable iter X.env x = pure x := by intro _; rfl) : VS X W own0 (i :: own0) ol (.Assign [.Name y py] (.ListComp elt [⟨tg, iter, ifs, 0⟩] scope pos) spos) (asgS i (lcE (own.map (·.2)) fi tf t f)) :=
  ⟨psW (ps_setLc (i := i) (tt := tT X.K X.mg W0 t) (te := tG X.K X.mg W0 f) hc hN hy hyl hsw hi.pi ok hg (fun s H C cl fp => (ht s H C cl fp).pts) (fun s H C cl fp => (he s H C cl fp).pe) hs) fun D σ H ⟨B, ρ, x, q⟩ => tLc_of rfl rfl tk hv ⟨ρ, x.env, (SEnd.out x q).mono fun d _ q v H' A s fu n => by
    obtain ⟨S, F, b, y⟩ := x
    exact q _ _ ⟨_, _, b.trans (ext_s []), y.put s fu n i⟩⟩⟩
/-- the target's part of a comprehension -/
theorem tk_name {X : Cx} {own : List Nat} (i : Nat) (hi : i ∉ own := by decide) : TgOk X own [i] (gName i) (tgN i) := fun S F ρ σ H v d ρ' st r e Q q => by
  cases e
  refine q _ (st.lay hi r) (fun k hk => ?_) (by rw [List.length_set])
  rw [List.getElem?_set_ne fun e => hk (List.mem_singleton.mpr e.symm)]
theorem tk_tup {X : Cx} {own : List Nat} (i j : Nat) (hi : i ∉ own := by decide) (hj : j ∉ own := by decide) : TgOk X own [i, j] (gTup X.K 2 (gCons (gName i) (gCons (gName j) gNil))) (tgT i j) := fun S F ρ σ H v d ρ' st r e Q q => by
  unfold tgT at e
  split at e
  · cases e
    cases r with
    | tup h r =>
      obtain ⟨v, w, rfl, h1, h2⟩ := rds2 r
      refine ⟨_, _, rfl, seqT st.sub h, rfl, v, [w], rfl, w, [], rfl, rfl, ?_⟩
      refine q _ ((st.lay hi h1).lay hj h2) (fun k hk => ?_) (by rw [List.length_set, List.length_set])
      rw [List.getElem?_set_ne fun e => hk (by simp [e]), List.getElem?_set_ne fun e => hk (by simp [e])]
  · cases e
end

/-! ### what changes a list in place -/
section
variable {K : PySem.W.Frag} {S H H' : Hp} {own : List Nat} {F : Nat → List Addr} {ρ : Env} {σ : L2.St} {q p : Addr} {o' : HO}
theorem upd_seqT (hq : ∃ o, H q = some o ∧ ¬ Stt o) {b : Addr} {xs : List V} (h : SqT K H b xs) : SqT K (upd H q o') b xs := by
  obtain ⟨o, ho, ns⟩ := hq
  rcases h with (h | ⟨o1, h⟩) | h
  · exact .inl (.inl (by rw [upd_ne (fun z => by rw [z, ho] at h; cases h; exact ns trivial)]; exact h))
  · exact .inl (.inr ⟨o1, by rw [upd_ne (fun z => by rw [z, ho] at h; cases h; exact ns trivial)]; exact h⟩)
  · exact .inr h
/-- slot i's data is changed at q -/
theorem Stx.mut (st : Stx own K S F ρ σ H) {i : Nat} {v : V} {d' : D} {A : List Addr} (hi : i ∈ own) (hv : σ[i]? = some (some v)) (hq : ∃ o, H q = some o ∧ ¬ Stt o) (hS : S q = none) (hF : ∀ j ∈ own, j ≠ i → q ∉ F j) (ns : ¬ Stt o')
    (f : Fu K (upd H q o') v d' A) (hA : ∀ a ∈ A, S a = none ∧ ∀ j ∈ own, j ≠ i → a ∉ F j) :
    Stx own K S (fun j => if j = i then A else F j) (ρ.set i (some d')) σ (upd H q o') := by
  refine ⟨by rw [List.length_set]; exact st.len, fun b o e => ?_, fun a o e t => ?_, fun j e w => ?_, fun j m a ha => ?_, fun j mj k mk ne a ha => ?_⟩
  · rw [upd_ne (fun z => by rw [z, hS] at e; cases e)]
    exact st.sub b o e
  · by_cases z : a = q
    · rw [z, upd_same] at e
      cases e
      exact absurd t ns
    · rw [upd_ne z] at e
      exact st.cl a o e t
  · rcases get_set w with ⟨rfl, e1, hl⟩ | ⟨ne, w⟩
    · cases e1
      refine ⟨v, hv, fun _ => ?_, fun m => absurd hi m⟩
      rw [if_pos rfl]
      exact f
    · obtain ⟨u, h1, h2, h3⟩ := st.val j e w
      refine ⟨u, h1, fun m => ?_, h3⟩
      rw [if_neg ne]
      exact (h2 m).at (fun a ha => upd_ne fun (z : a = q) => hF j m ne (z ▸ ha)) fun b xs hs => upd_seqT hq hs
  · by_cases e : j = i
    · rw [if_pos e] at ha
      exact ⟨(hA a ha).1, f.soft a ha⟩
    · rw [if_neg e] at ha
      obtain ⟨h1, o, h2, h3⟩ := st.out j m a ha
      refine ⟨h1, o, ?_, h3⟩
      rw [upd_ne fun (z : a = q) => hF j m e (z ▸ ha)]
      exact h2
  · intro hk
    by_cases ej : j = i
    · rw [if_pos ej] at ha
      have ek : k ≠ i := fun z => ne (ej.trans z.symm)
      rw [if_neg ek] at hk
      exact (hA a ha).2 k mk ek hk
    · rw [if_neg ej] at ha
      by_cases ek : k = i
      · rw [if_pos ek] at hk
        exact (hA a hk).2 j mj ej ha
      · rw [if_neg ek] at hk
        exact st.dis j mj k mk ne a ha hk
/-- what was made since is nobody's -/
theorem Stx.fresh (st : Stx own K S F ρ σ H) (s : Same H H') {v : V} {d : D} {A : List Addr} (f : Fu K H' v d A) (n : ∀ a ∈ A, H a = none) : ∀ a ∈ A, ext S H' [] a = none ∧ ∀ j ∈ own, a ∉ F j := fun a ha => by
  obtain ⟨o, h1, h2⟩ := f.soft a ha
  refine ⟨ext_none (st.sub.free (n a ha)) (fun z => nomatch z) (fun o' e => by rw [h1] at e; cases e; exact h2), fun j m z => ?_⟩
  obtain ⟨_, o2, h3, _⟩ := st.out j m a z
  rw [n a ha] at h3
  cases h3
/-- a list of its own: its address and what stands there -/
theorem Fu.list {v : V} {ds : List D} {A : List Addr} (f : Fu K H v (.lst ds) A) : ∃ p vs A', v = .ref p ∧ A = p :: A' ∧ H p = some (.lst vs) ∧ Fus K H vs ds A' ∧ p ∉ A' := by
  cases f with
  | lst h r n => exact ⟨_, _, _, rfl, rfl, h, r, n⟩
/-- the same list with other items -/
theorem fu_relist {vs' : List V} {ds' : List D} {A' : List Addr} (hp : ∃ o, H p = some o ∧ ¬ Stt o) (r : Fus K H vs' ds' A') (n : p ∉ A') : Fu K (upd H p (.lst vs')) (.ref p) (.lst ds') (p :: A') :=
  .lst upd_same (r.at (fun a ha => upd_ne fun z => n (z ▸ ha)) fun b xs hs => upd_seqT hp hs) n
end

def appS (i : Nat) (f : Env → R D) (ρ : Env) : Sr := match ρ[i]? with
  | some (some (.lst ds)) => bindS (f ρ) ρ fun d => if ds.length < sizeLine then .nx (ρ.set i (some (.lst (ds ++ [d])))) else .st
  | _ => .st
def setS (i : Nat) (fk fe : Env → R D) (ρ : Env) : Sr := bindS (fe ρ) ρ fun d => match ρ[i]? with
  | some (some (.lst ds)) => bindS (fk ρ) ρ fun k => match k with
    | .int n => (match ixN ds.length n with
      | some j => .nx (ρ.set i (some (.lst (ds.set j d))))
      | none => .st)
    | _ => .st
  | _ => .st
def clearS (i : Nat) (ρ : Env) : Sr := match ρ[i]? with
  | some (some (.lst _)) => .nx (ρ.set i (some (.lst [])))
  | _ => .st
section
variable {X : Cx} {W : WX} {own own' ol : List Nat} {st : Stmt} {f fk fe : Env → R D}
theorem vs_append (i : Nat) (p : PS X st (tDrop (tBM X.K "list" rAppend (tVar i) (tCons (tG X.K X.mg W f) tNil)))) (hi : i ∈ own := by decide) : VS X W own own ol st (appS i f) := ⟨psW p fun D σ H ⟨B, ρ, x, q⟩ => by
  unfold appS at q
  split at q
  · rename_i ds ei
    have q := SEnd.out x q
    obtain ⟨S, F, b, y⟩ := x
    obtain ⟨v, h1, h2, _⟩ := y.val i _ ei
    obtain ⟨pa, vs, A', rfl, eF, hp, r, n⟩ := (h2 hi).list
    refine ⟨_, h1, .inl ⟨rfl, _, .inl (.inl hp)⟩, ρ, y.env, q.mono fun d _ q w H1 C s1 f1 n1 => ?_⟩
    by_cases hz : ds.length < sizeLine
    rotate_left
    · rw [if_neg hz] at q; exact q.elim
    rw [if_pos hz] at q
    refine ⟨pa, vs, w, rfl, rfl, s1 _ _ hp, by rw [r.length]; exact hz, ?_⟩
    have y1 := y.grow s1 (A := []) (fun _ z => nomatch z)
    have mp : pa ∈ F i := by rw [eF]; exact List.mem_cons_self
    have fr := y.fresh s1 f1 n1
    have hpq : ∃ o, H1 pa = some o ∧ ¬ Stt o := ⟨_, s1 _ _ hp, fun z => (show False from z)⟩
    have nC : pa ∉ C := fun z => by have := n1 pa z; rw [hp] at this; cases this
    have r1 : Fus X.K H1 (vs ++ [w]) (ds ++ [d]) (A' ++ (C ++ [])) := (r.same s1).app (.cons f1 .nil fun _ _ z => nomatch z) fun a ha hb => by
      rw [List.append_nil] at hb
      exact (fr a hb).2 i hi (by rw [eF]; exact List.mem_cons_of_mem _ ha)
    rw [List.append_nil] at r1
    have n2 : pa ∉ A' ++ C := fun z => (List.mem_append.mp z).elim n nC
    refine q _ _ ⟨_, _, b.trans (ext_s []), y1.mut hi h1 hpq (y1.out i hi pa mp).1 (fun j m ne z => y.dis j m i hi ne pa z mp) (fun z => (show False from z)) (fu_relist hpq r1 n2) fun a ha => ?_⟩
    have old : ∀ a, a ∈ F i → ext S H1 [] a = none ∧ ∀ j ∈ own, j ≠ i → a ∉ F j := fun a hm => ⟨(y1.out i hi a hm).1, fun j m ne z' => y.dis j m i hi ne a z' hm⟩
    rcases List.mem_cons.mp ha with z | z
    · rw [z]
      exact old pa mp
    · rcases List.mem_append.mp z with z | z
      · exact old a (by rw [eF]; exact List.mem_cons_of_mem _ z)
      · exact ⟨(fr a z).1, fun j m _ => (fr a z).2 j m⟩
  · exact q.elim⟩
theorem vs_clear (i : Nat) (p : PS X st (tDrop (tBM0 X.K "list" rClear (tVar i)))) (hi : i ∈ own := by decide) : VS X W own own ol st (clearS i) := ⟨psW p fun D σ H ⟨B, ρ, x, q⟩ => by
  unfold clearS at q
  split at q
  · rename_i ds ei
    obtain ⟨S, F, b, y⟩ := x
    obtain ⟨v, h1, h2, _⟩ := y.val i _ ei
    obtain ⟨pa, vs, A', rfl, eF, hp, r, n⟩ := (h2 hi).list
    have mp : pa ∈ F i := by rw [eF]; exact List.mem_cons_self
    have hpq : ∃ o, H pa = some o ∧ ¬ Stt o := ⟨_, hp, fun z => (show False from z)⟩
    refine ⟨_, h1, .inl ⟨rfl, _, .inl (.inl hp)⟩, pa, vs, rfl, rfl, hp, ?_⟩
    refine q _ _ ⟨_, _, b, y.mut hi h1 hpq (y.out i hi pa mp).1 (fun j m ne z => y.dis j m i hi ne pa z mp) (fun z => (show False from z)) (fu_relist (A' := []) hpq .nil fun z => nomatch z) fun a ha => ?_⟩
    rcases List.mem_cons.mp ha with z | z
    · rw [z]
      exact ⟨(y.out i hi pa mp).1, fun j m ne z' => y.dis j m i hi ne pa z' mp⟩
    · cases z
  · exact q.elim⟩
/-- x[k] = e -/
theorem vs_setItem (i : Nat) (p : PS X st (tAsg (tG X.K X.mg W fe) (gSub (tVar i) (tF X.K X.mg W fk) rSetL))) (hi : i ∈ own := by decide) : VS X W own own ol st (setS i fk fe) := ⟨psW p fun D σ H ⟨B, ρ, x, q⟩ => by
  unfold setS at q
  have q := SEnd.out x q
  obtain ⟨S, F, b, y⟩ := x
  refine ⟨ρ, y.env, q.mono fun d _ q w H1 C s1 f1 n1 => ?_⟩
  split at q
  · rename_i ds ei
    have y1 := y.grow s1 (A := []) (fun _ z => nomatch z)
    have fr := y.fresh s1 f1 n1
    have q := SEnd.out (own' := own) (σ := σ) (H := H1) ⟨_, _, b.trans (ext_s []), y1⟩ q
    obtain ⟨v, h1, h2, _⟩ := y1.val i _ ei
    obtain ⟨pa, vs, A', rfl, eF, hp, r, n⟩ := (h2 hi).list
    refine ⟨_, h1, ρ, y1.env, q.mono fun k _ q kv H2 s2 rk => ?_⟩
    split at q
    · rename_i kn hkn
      split at q
      · rename_i jj ej
        cases rk
        have y2 := y1.grow s2 (A := []) (fun _ z => nomatch z)
        have mp : pa ∈ F i := by rw [eF]; exact List.mem_cons_self
        have hpq : ∃ o, H2 pa = some o ∧ ¬ Stt o := ⟨_, s2 _ _ hp, fun z => (show False from z)⟩
        refine ⟨pa, vs, kn, jj, rfl, rfl, s2 _ _ hp, by rw [r.length]; exact ej, ?_⟩
        have f2 := f1.same s2
        have nF : ∀ a ∈ C, a ∉ A' := fun a ha z => (fr a ha).2 i hi (by rw [eF]; exact List.mem_cons_of_mem _ z)
        obtain ⟨A2, r2, k2⟩ := Fus.set (A := A') (ds := ds) (vs := vs) f2 (r.same s2) nF jj
        have nC : pa ∉ C := fun z => (fr pa z).2 i hi mp
        have n2 : pa ∉ A2 := fun z => (k2 pa z).elim n nC
        have old : ∀ a, a ∈ F i → ext (ext S H1 []) H2 [] a = none ∧ ∀ j ∈ own, j ≠ i → a ∉ F j := fun a hm => ⟨(y2.out i hi a hm).1, fun j m ne z' => y2.dis j m i hi ne a z' hm⟩
        refine q _ _ ⟨_, _, (b.trans (ext_s [])).trans (ext_s []), y2.mut hi h1 hpq (old pa mp).1 (old pa mp).2 (fun z => (show False from z)) (fu_relist hpq r2 n2) fun a ha => ?_⟩
        rcases List.mem_cons.mp ha with z | z
        · rw [z]
          exact old pa mp
        · rcases k2 a z with z | z
          · exact old a (by rw [eF]; exact List.mem_cons_of_mem _ z)
          · refine ⟨ext_none (fr a z).1 (fun z => nomatch z) (fun o' e => ?_), fun j m _ => (fr a z).2 j m⟩
            obtain ⟨o, g1, g2⟩ := f2.soft a z
            rw [g1] at e; cases e; exact g2
      · exact q.elim
    · exact q.elim
  · exact q.elim⟩
end
end Vs

namespace Vs
open PySem PySem.Spec PyProof.Rows L2

/-! ### range with a step -/
def okRange (i j c : Int) : Prop := c ≠ 0 ∧ c.natAbs < 1073741824 ∧ Builtin.Range.small i j c = true
instance (i j c : Int) : Decidable (okRange i j c) := inferInstanceAs (Decidable (_ ∧ _))
def rngS : List D → R (List D)
  | [.int i, .int j, .int c] => if okRange i j c then .ok (rngC i c (Builtin.Range.rangeSize i j c).toNat) else .st
  | _ => .st
theorem rds3 {K : PySem.W.Frag} {H : Hp} {vs : List V} {d e f : D} (r : Rds K H vs [d, e, f]) : ∃ v w u, vs = [v, w, u] ∧ Rd K H v d ∧ Rd K H w e ∧ Rd K H u f := by
  cases r with
  | cons h r => cases r with
    | cons h2 r => cases r with
      | cons h3 r => cases r; exact ⟨_, _, _, rfl, h, h2, h3⟩
section
variable {X : Cx} {W : WX} {own own' ol : List Nat} {a b c tg : Expr} {fs : Env → R (List D)} {p pos : Pos}
theorem vi_rng3 (hg : Gl X "range") (hm : X.mg "range" = none) (ha : VA X W [a, b, c] fs) (hs : starEach [a, b, c] X.env = (false, eval a X.env) :: starEach [b, c] X.env := by rfl) (hpl : (backTo pos (starEach [b, c] X.env)).any (·.1) = false := by rfl) :
    VI X W own tg (.Call (.Name "range" p) [a, b, c] [] pos) (itR rngS fs) :=
  ⟨piW (pi_range3 hg hm ha.pa hs hpl) fun σ H Q ⟨ρ, S, F, st, o⟩ => ⟨ρ, st.env, (Out.bind o).mono fun ds _ q vs H' s r => by
    unfold rngS at q
    split at q
    · obtain ⟨v, w, u, rfl, h1, h2, h3⟩ := rds3 r
      split at q
      · rename_i c
        cases h1
        cases h2
        cases h3
        exact ⟨_, _, _, _, rfl, ⟨c.1, c.2.1, c.2.2, rangeSize_toNat _ _ _⟩, q _ H' [] s (fun _ z => nomatch z) (it_rngC _ _ _)⟩
      · exact q.elim
    · exact q.elim⟩⟩

/-! ### x += e -/
def augS (i : Nat) (g : D → D → R D) (f : Env → R D) (ρ : Env) : Sr := bindS (varE i ρ) ρ fun d => bindS (f ρ) ρ fun e => bindS (g d e) ρ fun z => .nx (ρ.set i (some z))
theorem vs_aug (i : Nat) {st : Stmt} {r : R2} {g : D → D → R D} {f : Env → R D} (p : PS X st (tAug i (tF X.K X.mg W f) r)) (k : OpD X r g) (n : NoEx2 g) : VS X W own (i :: own) ol st (augS i g f) := ⟨psW p fun D σ H ⟨B, ρ, x, q⟩ => by
  unfold augS at q
  cases hv : varE i ρ with
  | st => rw [hv] at q; exact q.elim
  | ex c =>
    unfold varE at hv
    split at hv <;> cases hv
  | ok d =>
    rw [hv, bindS_ok] at q
    have q := SEnd.out x q
    obtain ⟨S, F, b, y⟩ := x
    have e : ρ[i]? = some (some d) := by
      unfold varE at hv
      split at hv
      · rename_i e; cases hv; exact e
      · cases hv
    obtain ⟨v, h1, h2⟩ := y.env.val i d e
    refine ⟨v, h1, ρ, y.env, q.mono fun z _ q w H1 s1 r1 => ?_⟩
    cases hg : g d z with
    | st => rw [hg] at q; exact q.elim
    | ex c => exact absurd hg (n d z c)
    | ok u =>
      rw [hg, bindS_ok] at q
      refine k v w d z H1 _ u (h2.mono s1) r1 hg fun u' H2 A s2 f2 n2 => ?_
      exact q _ _ ⟨_, _, b.trans (ext_s []), y.put (s1.trans s2) f2 (fun a m => s1.free (n2 a m)) i⟩⟩
/-- += of ints and texts -/
def rAddI : R2 := fun x y H Q => rI0 (fun i j => .int (i + j)) x y H Q ∨ ∃ i j, x = .str i ∧ y = .str j ∧ i.length + j.length ≤ sizeLine ∧ Q (.str (i ++ j)) H
theorem ip_addA : PIp X .Add rAddI := fun pins s σ H x y v u Q I rx ry h => (iop_add.or iop_add_str) pins s σ H x y v u Q I rx ry h
def addI : D → D → R D
  | .int i, .int j => .ok (.int (i + j))
  | .str x, .str y => if x.length + y.length ≤ sizeLine then .ok (.str (x ++ y)) else .st
  | _, _ => .st
theorem nx_addI : NoEx2 addI := fun d e c h => by unfold addI at h; split at h <;> first | cases h | (split at h <;> cases h)
theorem d_addI : OpD X rAddI addI := fun x y d e H Q z rx ry h q => by
  unfold addI at h
  split at h
  · cases h; cases rx; cases ry
    exact .inl ⟨_, _, rfl, rfl, q _ H [] (Same.refl H) (.int _) (fun _ h => nomatch h)⟩
  · split at h
    · rename_i c
      cases h; cases rx; cases ry
      exact .inr ⟨_, _, rfl, rfl, c, q _ H [] (Same.refl H) (.str _) (fun _ h => nomatch h)⟩
    · cases h
  · cases h
end

/-! ### the text's defs -/
/-- a def of the text, as the top left it -/
def Def (K : PySem.W.Frag) (mg : Str → Option Value) (x : Str) (st : Stmt) : Prop := ∃ f fd, Fun K x x st f fd ∧ mg x = some (.ref f)
/-- a def that keeps its promise -/
def Cal (P : Program) (w : World) (K : PySem.W.Frag) (mg : Str → Option Value) (base : Heap) (x : Str) (ps : List Str) (k : Nat) (m : List D → R D) : Prop :=
  ∃ f fd, mg x = some (.ref f) ∧ PySem.W.keepIn K (.ref f) = true ∧ Binds K fd ps [] ∧ FnOk P w K mg base (L2.CX P w) k f fd ps (spF K mg ps.length m)
section
variable {P : Program} {w : World} {K : PySem.W.Frag} {mg : Str → Option Value} {base : Heap}
theorem cal_mk {x : Str} {st : Stmt} {N ps : List Str} {k : Nat} {own' : List Nat} {b : Env → Sr} (F : Def K mg x st) (S : FnScope N ps (defScope st)) (hps : ps.length ≤ N.length)
    (hb : ∀ (kV doc pm : Value) (an : Option Addr) (cdv ct : Value) (us : List Value), us.length = ps.length → bindArgs (PySem.W.fnOf x x (defArgs st) (defBody st) (defScope st) .none kV doc pm an cdv ct) ⟨us, []⟩ = pure (ps.zip us))
    (hbody : ∀ (f : Addr) (cdv : Value) (A : Around) (outer : List PySem.Env) (s : Shared) (H : Hp) (E : XK), Room k (A.deeper (envOfC x (defScope st) s.heap.objs.size f cdv)) →
      VSs (cxOf (L2.CX P w) P w K mg base N x (defScope st) f cdv A outer s H E) (fun cls d _ H => E cls d H) [] own' [] (defBody st) b) :
    Cal P w K mg base x ps (k + 1) (runB N.length b) := by
  obtain ⟨f, fd, F, h⟩ := F
  exact ⟨f, fd, h, F.kp, F.binds hb, fn_ok F S hps (fun cdv A outer s H E hr => hbody f cdv A outer s H E hr)⟩
theorem vg_fn {X : Cx} {W : WX} {x : Str} {ps : List Str} {k k' : Nat} {m : List D → R D} {p pos : Pos} {e : Expr} {es : List Expr} {fs : Env → R (List D)} (C : Cal X.prog X.w X.K X.mg X.base x ps k m) (hr : Room k' X.A) (tk : Takes X W) (hg : Gl X x)
    (ha : VA X W (e :: es) fs) (hl : LenA fs ps.length) (hk : k ≤ k' := by decide) (hdb : (x == ("__debug__" : Str)) = false := by decide) (he : starEach (e :: es) X.env = (false, eval e X.env) :: starEach es X.env := by rfl) (hpl : (backTo pos (starEach es X.env)).any (·.1) = false := by rfl) :
    VG X W (.Call (.Name x p) (e :: es) [] pos) (callF m fs) := by
  obtain ⟨f, fd, h1, h2, h3, h4⟩ := C
  exact vg_call h4 (hr.mono hk) tk hg h1 h2 h3 ha hl hdb he hpl
end
end Vs

namespace Vs
open PySem PySem.Spec PyProof.Rows L2

/-! ### the end of a law -/
/-- a def of the text in the written part -/
def DefK (K : PySem.W.Frag) (x : Str) (st : Stmt) : Prop := ∃ (f : Addr) (oc : Value) (od : Option Addr) (kV doc pm : Value) (an : Option Addr) (cd ct : Value) (sl : Array (Option Value)),
  PySem.W.nsIn K mainGlobals x = some (some (.ref f)) ∧ K.lookup f = some ⟨oc, od, .func (PySem.W.fnOf x x (defArgs st) (defBody st) (defScope st) .none kV doc pm an cd ct), sl⟩ ∧ PySem.W.codeIn K cd x = true ∧ PySem.W.keepIn K (.ref f) = true
theorem defK_mk {K : PySem.W.Frag} {x : Str} {st : Stmt} {f : Addr} {oc : Value} {od : Option Addr} {kV doc pm : Value} {an : Option Addr} {cd ct : Value} {sl : Array (Option Value)}
    (a : PySem.W.nsIn K mainGlobals x = some (some (.ref f))) (l : K.lookup f = some ⟨oc, od, .func (PySem.W.fnOf x x (defArgs st) (defBody st) (defScope st) .none kV doc pm an cd ct), sl⟩) (c : PySem.W.codeIn K cd x = true) (k : PySem.W.keepIn K (.ref f) = true) : DefK K x st :=
  ⟨f, oc, od, kV, doc, pm, an, cd, ct, sl, a, l, c, k⟩
def NoK (K : PySem.W.Frag) (x : Str) : Prop := PySem.W.nsIn K mainGlobals x = some none
section
variable {K : PySem.W.Frag} {h : Heap} {mg : Str → Option Value} {x : Str} {st : Stmt}
theorem def_of (X : K.In h) (G : h.Ns mainGlobals mg) (d : DefK K x st) : Def K mg x st := by
  obtain ⟨f, oc, od, kV, doc, pm, an, cd, ct, sl, a, l, c, k⟩ := d
  exact ⟨f, _, fun_mk l c k, PySem.W.mg_of X G a⟩
theorem no_of (X : K.In h) (G : h.Ns mainGlobals mg) (d : NoK K x) : mg x = none := PySem.W.mg_none_of X G d
end
/-- the script: at most 63 ints of at most 2^20 bits -/
structure Scr (ns : List Int) : Prop where
  len : ns.length ≤ 63
  bits : ∀ z ∈ ns, Builtin.Int.intBits z ≤ 1048576
def spLaw (K : PySem.W.Frag) : Sp := fun vs H Q _ => ∃ (a : Addr) (ns : List Int), vs = [.ref a] ∧ SqL K H a (ns.map V.int) ∧ Scr ns ∧ ∀ H', Q (.bl true) H'
theorem rds_ints {K : PySem.W.Frag} {H : Hp} : ∀ ns : List Int, Rds K H (ns.map V.int) (ns.map D.int)
  | [] => .nil
  | n :: ns => .cons (.int n) (rds_ints ns)
theorem law_of {P : Program} {w : World} {K : PySem.W.Frag} {mg : Str → Option Value} {base : Heap} {k : Nat} {f : Addr} {fd : FuncData} {ps : List Str} {m : List D → R D}
    (F : FnOk P w K mg base (L2.CX P w) k f fd ps (spF K mg 1 m)) (h : ∀ ns, Scr ns → m [.lst (ns.map D.int)] = .ok (.bl true)) : FnOk P w K mg base (L2.CX P w) k f fd ps (spLaw K) :=
  F.imp fun vs H Q E ⟨a, ns, e, hS, hs, q⟩ => by
    subst e
    refine ⟨rfl, [.lst (ns.map D.int)], .cons (.lst hS (rds_ints ns)) .nil, ?_⟩
    rw [h ns hs]
    intro v H' A _ f _
    cases f
    exact q H'
theorem walk {l : PySem.W.OpenLaw} {q : Program} {loose : List Str} {XP : (Str → Option Value) → Heap → Prop} {YP : World → Heap → Prop} {d : DefRec} {K : Params → PySem.W.Frag} {k : Nat} (hn : l.most = some 63) (hdf : d.params.defaults = []) (hr : Room k callerA)
    (hY : ∀ (w : World) (h : Heap), YP w h → (K w.params).In h)
    (F : ∀ (w : World) (mg : Str → Option Value) (fa : Addr) (h : Heap), (K w.params).In h → h.Ns mainGlobals mg → mg d.name = some (.ref fa) →
      ∃ fd : FuncData, (∀ (s : Shared) (u : Value), BindsTo s fd ⟨[u], []⟩ [("_law_script", u)]) ∧ ∀ base : Heap, (K w.params).In base → base.Ns mainGlobals mg → FnOk l.prog w (K w.params) mg base (L2.CX l.prog w) k fa fd ["_law_script"] (spLaw (K w.params))) :
    PySem.W.WalkO q loose XP YP l.row.toRowW d [] (fun f vs => PySem.call f vs) :=
  L2.walk_ofB (n := 63) (k := k) (x := "_law_script") (CX := fun w => L2.CX l.prog w) (sp := fun w => spLaw (K w.params)) hn (by decide) hdf hr hY F
    (fun w H a ns hl hb _ hS => ⟨a, ns, rfl, hS, ⟨hl, hb⟩, fun _ => rfl⟩) fun w H s e s' z => by
      obtain ⟨_, _, _, _, _, _, _, _, _, _, _, _, z⟩ := z
      exact z
/-- the law's own def -/
def DefL (K : PySem.W.Frag) (mg : Str → Option Value) (st : Stmt) (fa : Addr) : Prop := ∃ fd, Fun K "law" "law" st fa fd
theorem defL_of {K : PySem.W.Frag} {h : Heap} {mg : Str → Option Value} {st : Stmt} {fa : Addr} (X : K.In h) (G : h.Ns mainGlobals mg) (hfa : mg "law" = some (.ref fa)) (d : DefK K "law" st) : ∃ fd, Fun K "law" "law" st fa fd := by
  obtain ⟨f, oc, od, kV, doc, pm, an, cd, ct, sl, a, l, c, k⟩ := d
  have e := hfa.symm.trans (PySem.W.mg_of X G a)
  cases e
  exact ⟨_, fun_mk l c k⟩
theorem law_end {P : Program} {w : World} {K : PySem.W.Frag} {mg : Str → Option Value} {st : Stmt} {fa : Addr} {N : List Str} {k : Nat} {own' : List Nat} {b : Env → Sr} (d : ∃ fd, Fun K "law" "law" st fa fd) (S : FnScope N ["_law_script"] (defScope st)) (hps : 1 ≤ N.length)
    (hb : ∀ (kV doc pm : Value) (an : Option Addr) (cdv ct : Value) (s : Shared) (v : Value), BindsTo s (PySem.W.fnOf "law" "law" (defArgs st) (defBody st) (defScope st) .none kV doc pm an cdv ct) ⟨[v], []⟩ [("_law_script", v)])
    (hbody : ∀ (base : Heap), K.In base → base.Ns mainGlobals mg → ∀ (f : Addr) (cdv : Value) (A : Around) (outer : List PySem.Env) (s : Shared) (H : Hp) (E : XK), Room k (A.deeper (envOfC "law" (defScope st) s.heap.objs.size f cdv)) →
      VSs (cxOf (L2.CX P w) P w K mg base N "law" (defScope st) f cdv A outer s H E) (fun cls d _ H => E cls d H) [] own' [] (defBody st) b)
    (h : ∀ ns, Scr ns → runB N.length b [.lst (ns.map D.int)] = .ok (.bl true)) :
    ∃ fd : FuncData, (∀ (s : Shared) (u : Value), BindsTo s fd ⟨[u], []⟩ [("_law_script", u)]) ∧ ∀ base : Heap, K.In base → base.Ns mainGlobals mg → FnOk P w K mg base (L2.CX P w) (k + 1) fa fd ["_law_script"] (spLaw K) := by
  obtain ⟨fd, F⟩ := d
  refine ⟨fd, fun s u => ?_, fun base h1 h2 => law_of (fn_ok F S hps fun cdv A outer s H E hr => hbody base h1 h2 fa cdv A outer s H E hr) h⟩
  obtain ⟨oc, od, kV, doc, pm, an, cdv, ct, osl, rfl, _, _⟩ := F.ex
  exact hb kV doc pm an cdv ct s u
end Vs

namespace Vs
open PySem PySem.Spec PyProof.Rows L2

/-! ### return (x, y): both lists handed out -/
def retV2 (i j : Nat) (ρ : Env) : Sr := match ρ[i]?, ρ[j]? with
  | some (some d), some (some e) => .rt (.tup [d, e])
  | _, _ => .st
section
variable {X : Cx} {W : WX} {own own' ol : List Nat} {pos : Pos}
theorem vs_retV2 (i j : Nat) {x y : Str} {p1 p2 p3 : Pos} {c : Nat} (pi : PE X (.Name x p1) (tVar i)) (pj : PE X (.Name y p2) (tVar j)) (hi : i ∈ own := by decide) (hj : j ∈ own := by decide) (hij : i ≠ j := by decide)
    (h1 : starEach [.Name x p1, .Name y p2] X.env = (false, eval (.Name x p1) X.env) :: starEach [.Name y p2] X.env := by rfl) (h2 : starEach [.Name y p2] X.env = (false, eval (.Name y p2) X.env) :: starEach [] X.env := by rfl) :
    VS X W own own' ol (.Return (some (.Tuple [.Name x p1, .Name y p2] c p3)) pos) (retV2 i j) := ⟨psW (ps_ret (pe_tup (pa_cons pi (pa_cons pj pa_nil h2) h1))) fun D σ H ⟨B, ρ, x, q⟩ => by
  unfold retV2 at q
  split at q
  · rename_i d e hd he
    obtain ⟨S, F, b, y⟩ := x
    obtain ⟨v, a1, a2, _⟩ := y.val i d hd
    obtain ⟨w, b1, b2, _⟩ := y.val j e he
    refine ⟨v, a1, w, b1, le_line (n := 2) rfl (by decide), fun p hp => ?_⟩
    have f : Fus X.K (upd H p (.tup [v, w])) [v, w] [d, e] (F i ++ (F j ++ [])) := .cons ((a2 hi).same (new_same hp)) (.cons ((b2 hj).same (new_same hp)) .nil (fun _ _ h => nomatch h)) (fun a m h => by
      rw [List.append_nil] at h
      exact y.dis i hi j hj hij a m h)
    refine q (.ref p) _ (F i ++ (F j ++ [])) ((b.trans y.sub).trans (new_same hp)) (.tup (SqT.of upd_same) f) fun a m => ?_
    rw [List.append_nil] at m
    rcases List.mem_append.mp m with m | m
    · exact b.free (y.out i hi a m).1
    · exact b.free (y.out j hj a m).1
  · exact q.elim⟩
end
end Vs

namespace Vs
open PySem PySem.Spec PyProof.Rows L2

/-! ### x.bit_length(), x = y for lists -/
def bitsD : D → R D
  | .int i => .ok (.int (Builtin.Int.intBits i : Nat))
  | _ => .st
def bitsE (f : Env → R D) (ρ : Env) : R D := (f ρ).bind bitsD
def aliasS (i j : Nat) (ρ : Env) : Sr := match ρ[j]? with
  | some (some d) => .nx (ρ.set i (some d))
  | _ => .st
section
variable {X : Cx} {W : WX} {own own' ol : List Nat} {pos : Pos} {a : Expr} {f : Env → R D}
theorem vg_bits {apos : Pos} (ha : VE X W a f) (hbase : attributeBase a "bit_length" X.env (eval a X.env) = eval a X.env := by rfl) (hline : (apos.endLine == pos.line) = true := by rfl) :
    VG X W (.Call (.Attribute a "bit_length" apos) [] [] pos) (bitsE f) := ⟨peW (pe_bits ha.pe hbase hline) fun σ H Q ⟨ρ, re, o⟩ => ⟨ρ, re, (Out.bind o).mono fun d _ q v H1 s1 r1 => by
  unfold bitsD at q
  split at q
  · cases r1
    exact ⟨_, rfl, q _ H1 [] s1 (.int _) (fun _ h => nomatch h)⟩
  · exact q.elim⟩⟩
/-- x = y: neither owns from here on -/
theorem vs_alias (i j : Nat) {x y : Str} {p1 p2 : Pos} (hN : X.N.Nodup) (hi : X.N[i]? = some x) (hx : Loc X.env.scope x) (pj : PE X (.Name y p2) (tVar j)) (hni : i ∉ own' := by decide) (hnj : j ∉ own' := by decide) (w : ∀ k ∈ own', k ∈ own := by decide)
    (hs : swapsWith (.Name y p2) (some (.Name x p1)) pos.line X.env = pure false := by rfl) (hf : X.fn x = true ∨ X.env.scope.names.lookup x = some .local := by first | exact .inl rfl | exact .inr rfl | assumption) :
    VS X W own own' ol (.Assign [.Name x p1] (.Name y p2) pos) (aliasS i j) := ⟨psW (ps_set hN hi hx pj hs hf) fun D σ H ⟨B, ρ, x, q⟩ => by
  unfold aliasS at q
  split at q
  · rename_i d hd
    obtain ⟨S, F, b, y⟩ := x.weak w
    obtain ⟨v, a1, _, a2⟩ := y.val j d hd
    exact ⟨v, a1, q _ _ ⟨S, F, b, y.lay hni (a2 hnj)⟩⟩
  · exact q.elim⟩
end
end Vs

namespace Vs
open PySem PySem.Spec PyProof.Rows L2

/-! ### displays as sources -/
section
variable {K : PySem.W.Frag} {H S : Hp}
theorem ext_sup {A B : List Addr} (h : ∀ a ∈ A, a ∈ B) : Same (ext S H A) (ext S H B) := fun b o e => by
  unfold ext at e ⊢
  cases q : S b with
  | some u => rw [q] at e; exact e
  | none =>
    rw [q] at e
    simp only at e ⊢
    cases q2 : H b with
    | none => rw [q2] at e; cases e
    | some u =>
      rw [q2] at e
      simp only at e ⊢
      by_cases c : Stt u ∨ b ∈ A
      · rw [if_pos c] at e
        rw [if_pos (c.imp id (h b))]
        exact e
      · rw [if_neg c] at e; cases e
variable {X : Cx} {W : WX} {own : List Nat} {es : List Expr} {fs : Env → R (List D)} {pos : Pos}
theorem vp_lst {n : Nat} (ha : VPs X W own es fs) (hl : LenA fs n) (hn : n ≤ 1000 := by decide) : VP X W own (.List es pos) (lstE fs) := ⟨peW (pe_lst ha.pa) fun σ H Q ⟨ρ, S, F, st, o⟩ => ⟨ρ, S, F, st, (Out.bind o).mono fun ds hd q vs H1 A s1 n1 r1 =>
  ⟨le_line (r1.length.trans (hl ρ ds hd)) hn, fun p hp => q _ _ (p :: A) (s1.trans (new_same hp)) (fun a m => (List.mem_cons.mp m).elim (fun z => by rw [z]; exact s1.free hp) fun z => n1 a z)
    (.lst (SqL.of (ext_at ((st.sub.trans s1).trans (new_same hp)) upd_same List.mem_cons_self)) (r1.mono ((ext_mono (A := A) (new_same hp) (st.sub.trans s1)).trans (ext_sup fun a m => List.mem_cons_of_mem _ m))))⟩⟩⟩
end
end Vs

namespace Vs
open PySem PySem.Spec PyProof.Rows L2

/-! ### reckoning with meanings -/
def Sr.seq : Sr → (Env → Sr) → Sr
  | .nx ρ, b => b ρ
  | r, _ => r
theorem seqS_eq (a b : Env → Sr) (ρ : Env) : seqS a b ρ = (a ρ).seq b := by
  unfold seqS Sr.seq
  cases a ρ <;> rfl
theorem seq_nx (ρ : Env) (b : Env → Sr) : (Sr.nx ρ).seq b = b ρ := rfl
theorem seq_rt (d : D) (b : Env → Sr) : (Sr.rt d).seq b = .rt d := rfl
theorem seq_st (b : Env → Sr) : (Sr.st).seq b = .st := rfl
theorem seq_bk (ρ : Env) (b : Env → Sr) : (Sr.bk ρ).seq b = .bk ρ := rfl
theorem seq_ct (ρ : Env) (b : Env → Sr) : (Sr.ct ρ).seq b = .ct ρ := rfl
theorem seq_ex (c : Str) (ρ : Env) (b : Env → Sr) : (Sr.ex c ρ).seq b = .ex c ρ := rfl
theorem seq_ite (p : Prop) [Decidable p] (x y : Sr) (b : Env → Sr) : (if p then x else y).seq b = if p then x.seq b else y.seq b := by split <;> rfl
theorem body_nx (ρ : Env) : bodyR (.nx ρ) = .ok .non := rfl
theorem body_rt (d : D) : bodyR (.rt d) = .ok d := rfl
theorem body_ex (c : Str) (ρ : Env) : bodyR (.ex c ρ) = .ex c := rfl
theorem body_ite (p : Prop) [Decidable p] (x y : Sr) : bodyR (if p then x else y) = if p then bodyR x else bodyR y := by split <;> rfl
theorem bind_ite {α β : Type} (p : Prop) [Decidable p] (x y : R α) (f : α → R β) : (if p then x else y).bind f = if p then x.bind f else y.bind f := by split <;> rfl
theorem bindS_ite {α : Type} (p : Prop) [Decidable p] (x y : R α) (ρ : Env) (k : α → Sr) : bindS (if p then x else y) ρ k = if p then bindS x ρ k else bindS y ρ k := by split <;> rfl
theorem var0 (d : D) (ρ : Env) : varE 0 (some d :: ρ) = .ok d := rfl
theorem varS (i : Nat) (x : Option D) (ρ : Env) : varE (i + 1) (x :: ρ) = varE i ρ := rfl
theorem immD_int (i : Int) : immD (.int i) = true := by rw [immD]
theorem immD_bl (i : Bool) : immD (.bl i) = true := by rw [immD]
theorem immD_str (i : Str) : immD (.str i) = true := by rw [immD]
theorem immD_non : immD .non = true := by rw [immD]
theorem immD_tup (xs : List D) : immD (.tup xs) = immDs xs := by rw [immD]
theorem immD_lst (xs : List D) : immD (.lst xs) = false := by rw [immD]
theorem immDs_nil : immDs [] = true := by rw [immDs]
theorem immDs_cons (x : D) (xs : List D) : immDs (x :: xs) = (immD x && immDs xs) := by rw [immDs]
theorem immDs_ints : ∀ ns : List Int, immDs (ns.map D.int) = true
  | [] => by rw [List.map_nil, immDs]
  | n :: ns => by rw [List.map_cons, immDs, immD, immDs_ints ns]; rfl
theorem retV0 (d : D) (ρ : Env) : retV 0 (some d :: ρ) = .rt d := rfl
theorem retVS (i : Nat) (x : Option D) (ρ : Env) : retV (i + 1) (x :: ρ) = retV i ρ := rfl

/-! equality -/
theorem eqB_int (i j : Int) : eqB (.int i) (.int j) = decide (i = j) := by
  unfold eqB
  rw [pyD, pyD, PyData.eqv]
  first
    | rfl
    | (by_cases h : i = j <;> simp [h])
theorem shaped_int (i : Int) : SeqAt.shaped (pyD (.int i)) = true := by rw [pyD]; rfl
theorem eqD_int (i j : Int) : eqD (.int i) (.int j) = .ok (.bl (decide (i = j))) := by
  unfold eqD
  rw [if_pos ⟨shaped_int i, shaped_int j⟩, eqB_int]
theorem neD_int (i j : Int) : neD (.int i) (.int j) = .ok (.bl (!decide (i = j))) := by
  unfold neD
  rw [if_pos ⟨shaped_int i, shaped_int j⟩, eqB_int]

/-! lists by place -/
theorem atI_lt {α : Type} {xs : List α} {i : Int} (h0 : 0 ≤ i) (h : i < xs.length) : atI xs i = xs[i.toNat]? := by
  unfold atI ixN
  rw [if_pos h0, if_pos h]
  rfl
theorem ixD_lst {xs : List D} {i : Int} {d : D} (h0 : 0 ≤ i) (h : xs[i.toNat]? = some d) : ixD (.lst xs) (.int i) = .ok d := by
  have hl : i < xs.length := by
    have := (List.getElem?_eq_some_iff.mp h).1
    omega
  unfold ixD
  simp only
  rw [atI_lt h0 hl, h]
theorem ixD_tup {xs : List D} {i : Int} {d : D} (h0 : 0 ≤ i) (h : xs[i.toNat]? = some d) : ixD (.tup xs) (.int i) = .ok d := by
  have hl : i < xs.length := by
    have := (List.getElem?_eq_some_iff.mp h).1
    omega
  unfold ixD
  simp only
  rw [atI_lt h0 hl, h]
/-- the small sizes of products -/
theorem mulOk_of {i j : Int} {a b : Nat} (ha : i.natAbs < 2 ^ a) (hb : j.natAbs < 2 ^ b) (h : a + b ≤ 134000000 := by decide) : mulOk i j := by
  have x : ∀ {n k : Nat}, n < 2 ^ k → n.log2 ≤ k := fun {n k} h => by
    by_cases e : n = 0
    · subst e; rw [Nat.log2_zero]; exact Nat.zero_le _
    · exact Nat.le_of_lt ((Nat.log2_lt e).mpr h)
  have x1 := x ha
  have x2 := x hb
  unfold mulOk
  omega
theorem bits_lt {z : Int} {n : Nat} (h : Builtin.Int.intBits z ≤ n) : z.natAbs < 2 ^ n := by
  unfold Builtin.Int.intBits at h
  by_cases e : z.natAbs = 0
  · rw [e]; exact Nat.two_pow_pos n
  · split at h
    · rename_i h0
      simp at h0
      omega
    · exact (Nat.log2_lt e).mp (by omega)
theorem isT_int_non  : isT "int" (.non) = .ok (.bl false) := by simp [isT, clsD]
theorem isT_int_bl (b : Bool) : isT "int" (.bl b) = .ok (.bl true) := by simp [isT, clsD]
theorem isT_int_int (i : Int) : isT "int" (.int i) = .ok (.bl true) := by simp [isT, clsD]
theorem isT_int_str (x : Str) : isT "int" (.str x) = .ok (.bl false) := by simp [isT, clsD]
theorem isT_int_lst (xs : List D) : isT "int" (.lst xs) = .ok (.bl false) := by simp [isT, clsD]
theorem isT_int_tup (xs : List D) : isT "int" (.tup xs) = .ok (.bl false) := by simp [isT, clsD]
theorem isT_bool_non  : isT "bool" (.non) = .ok (.bl false) := by simp [isT, clsD]
theorem isT_bool_bl (b : Bool) : isT "bool" (.bl b) = .ok (.bl true) := by simp [isT, clsD]
theorem isT_bool_int (i : Int) : isT "bool" (.int i) = .ok (.bl false) := by simp [isT, clsD]
theorem isT_bool_str (x : Str) : isT "bool" (.str x) = .ok (.bl false) := by simp [isT, clsD]
theorem isT_bool_lst (xs : List D) : isT "bool" (.lst xs) = .ok (.bl false) := by simp [isT, clsD]
theorem isT_bool_tup (xs : List D) : isT "bool" (.tup xs) = .ok (.bl false) := by simp [isT, clsD]
theorem isT_str_non  : isT "str" (.non) = .ok (.bl false) := by simp [isT, clsD]
theorem isT_str_bl (b : Bool) : isT "str" (.bl b) = .ok (.bl false) := by simp [isT, clsD]
theorem isT_str_int (i : Int) : isT "str" (.int i) = .ok (.bl false) := by simp [isT, clsD]
theorem isT_str_str (x : Str) : isT "str" (.str x) = .ok (.bl true) := by simp [isT, clsD]
theorem isT_str_lst (xs : List D) : isT "str" (.lst xs) = .ok (.bl false) := by simp [isT, clsD]
theorem isT_str_tup (xs : List D) : isT "str" (.tup xs) = .ok (.bl false) := by simp [isT, clsD]
theorem isT_list_non  : isT "list" (.non) = .ok (.bl false) := by simp [isT, clsD]
theorem isT_list_bl (b : Bool) : isT "list" (.bl b) = .ok (.bl false) := by simp [isT, clsD]
theorem isT_list_int (i : Int) : isT "list" (.int i) = .ok (.bl false) := by simp [isT, clsD]
theorem isT_list_str (x : Str) : isT "list" (.str x) = .ok (.bl false) := by simp [isT, clsD]
theorem isT_list_lst (xs : List D) : isT "list" (.lst xs) = .ok (.bl true) := by simp [isT, clsD]
theorem isT_list_tup (xs : List D) : isT "list" (.tup xs) = .ok (.bl false) := by simp [isT, clsD]
theorem isT_tuple_non  : isT "tuple" (.non) = .ok (.bl false) := by simp [isT, clsD]
theorem isT_tuple_bl (b : Bool) : isT "tuple" (.bl b) = .ok (.bl false) := by simp [isT, clsD]
theorem isT_tuple_int (i : Int) : isT "tuple" (.int i) = .ok (.bl false) := by simp [isT, clsD]
theorem isT_tuple_str (x : Str) : isT "tuple" (.str x) = .ok (.bl false) := by simp [isT, clsD]
theorem isT_tuple_lst (xs : List D) : isT "tuple" (.lst xs) = .ok (.bl false) := by simp [isT, clsD]
theorem isT_tuple_tup (xs : List D) : isT "tuple" (.tup xs) = .ok (.bl true) := by simp [isT, clsD]

theorem modD_pos {i j : Int} (h : 0 < j) : modD (.int i) (.int j) = .ok (.int (i % j)) := by unfold modD; simp only; rw [if_pos h]
theorem fdivD_big {i j : Int} (h : 0 < j) (h2 : j.natAbs < 2 ^ 9000) : fdivD (.int i) (.int j) = .ok (.int (i / j)) := by
  unfold fdivD
  simp only
  rw [if_pos ⟨h, by
    have e : j.natAbs ≠ 0 := by omega
    exact (Nat.log2_lt e).mpr h2⟩]
theorem e64 : (2 : Nat) ^ 64 = 18446744073709551616 := by decide
theorem lt9000 {n : Nat} (h : n < 2 ^ 64) : n < 2 ^ 9000 := Nat.lt_trans h (Nat.pow_lt_pow_right (by decide) (by decide))
theorem fdivD_pos {i j : Int} (h : 0 < j) (h2 : j < 18446744073709551616) : fdivD (.int i) (.int j) = .ok (.int (i / j)) := fdivD_big h (lt9000 (by rw [e64]; omega))
theorem powD_ok {i j : Int} (h : 0 ≤ j) (h2 : j ≤ 1000000) (h3 : -18446744073709551616 < i) (h4 : i < 18446744073709551616) : powD (.int i) (.int j) = .ok (.int (i ^ j.toNat)) := by
  unfold powD; simp only; rw [if_pos ⟨h, bits_mul_le (by rw [e64]; omega) h h2⟩]
theorem powD_big {i j : Int} {n : Nat} (h : 0 ≤ j) (h2 : i.natAbs < 2 ^ n) (h3 : (n : Int) * j ≤ 134217728) : powD (.int i) (.int j) = .ok (.int (i ^ j.toNat)) := by
  have hb : Builtin.Int.intBits i ≤ n := intBits_le_iff.mpr h2
  have h4 : (Builtin.Int.intBits i : Int) * j ≤ (n : Int) * j := Int.mul_le_mul_of_nonneg_right (by omega) h
  have h5 : (2 : Int) ^ 27 = 134217728 := by decide
  unfold powD; simp only; rw [if_pos ⟨h, by omega⟩]
theorem shlD_ok {i j : Int} (h : 0 ≤ j) (h2 : j ≤ 1000000) (h3 : -18446744073709551616 < i) (h4 : i < 18446744073709551616) : shlD (.int i) (.int j) = .ok (.int (i * 2 ^ j.toNat)) := by
  unfold shlD; simp only; rw [if_pos ⟨h, bits_add_le (by rw [e64]; omega) h2⟩]
theorem shrD_ok {i j : Int} (h : 0 ≤ j) : shrD (.int i) (.int j) = .ok (.int (i / 2 ^ j.toNat)) := by unfold shrD; simp only; rw [if_pos h]
theorem mulD_ok {i j : Int} (h : mulOk i j) : mulD (.int i) (.int j) = .ok (.int (i * j)) := by unfold mulD; simp only; rw [if_pos h]
/-- of at most n bits -/
structure Bits (n : Nat) (z : Int) : Prop where
  lt : z.natAbs < 2 ^ n
theorem Bits.mono {n m : Nat} {z : Int} (h : Bits n z) (k : n ≤ m) : Bits m z := ⟨Nat.lt_of_lt_of_le h.lt (Nat.pow_le_pow_right (by decide) k)⟩
theorem Bits.of64 {z : Int} (h3 : -18446744073709551616 < z) (h4 : z < 18446744073709551616) : Bits 64 z := ⟨by rw [e64]; omega⟩
theorem Bits.mul {n m : Nat} {y z : Int} (h : Bits n y) (k : Bits m z) : Bits (n + m) (y * z) := ⟨by
  rw [Int.natAbs_mul, Nat.pow_add]
  exact Nat.mul_lt_mul'' h.lt k.lt⟩
theorem Bits.add {n : Nat} {y z : Int} (h : Bits n y) (k : Bits n z) : Bits (n + 1) (y + z) := ⟨by
  have h1 := h.lt
  have h2 := k.lt
  rw [Nat.pow_succ]
  omega⟩
theorem Bits.sub {n : Nat} {y z : Int} (h : Bits n y) (k : Bits n z) : Bits (n + 1) (y - z) := ⟨by
  have h1 := h.lt
  have h2 := k.lt
  rw [Nat.pow_succ]
  omega⟩
theorem Bits.neg {n : Nat} {z : Int} (h : Bits n z) : Bits n (-z) := ⟨by rw [Int.natAbs_neg]; exact h.lt⟩
theorem Bits.le {n : Nat} {y z : Int} (h : Bits n z) (k : y.natAbs ≤ z.natAbs) : Bits n y := ⟨Nat.lt_of_le_of_lt k h.lt⟩
theorem Bits.pow2 (k : Nat) : Bits (k + 1) (2 ^ k) := ⟨by
  rw [Int.natAbs_pow]
  exact Nat.pow_lt_pow_right (by decide) (Nat.lt_succ_self _)⟩
theorem Bits.of_int {z : Int} {n : Nat} (h : Builtin.Int.intBits z ≤ n) : Bits n z := ⟨bits_lt h⟩
theorem Bits.ok {n m : Nat} {y z : Int} (h : Bits n y) (k : Bits m z) (l : n + m ≤ 134000000 := by decide) : mulOk y z := mulOk_of h.lt k.lt l

/-! range with a step -/
theorem rangeSize_bd {i j c : Int} (hc : 0 < c) : 0 ≤ Builtin.Range.rangeSize i j c ∧ (Builtin.Range.rangeSize i j c = 0 ∨ Builtin.Range.rangeSize i j c ≤ j - i) := by
  unfold Builtin.Range.rangeSize
  rw [if_pos hc]
  split
  · have h1 := Int.ediv_nonneg (a := j - i - 1) (b := c) (by omega) (by omega)
    have h2 : (j - i - 1) / c ≤ j - i - 1 := Int.ediv_le_self _ (by omega)
    omega
  · omega
theorem okRange_pos {i j c : Int} (bi : bnd i) (bj : bnd j) (hc : 0 < c) (hc2 : c < 1073741824) : okRange i j c := by
  obtain ⟨h1, h2⟩ := rangeSize_bd (i := i) (j := j) hc
  obtain ⟨b1, b2⟩ := bi
  obtain ⟨b3, b4⟩ := bj
  refine ⟨by omega, by omega, ?_⟩
  have e62 : (2 : Int) ^ 62 = 4611686018427387904 := by decide
  have e63 : (2 : Int) ^ 63 = 9223372036854775808 := by decide
  rw [e62] at b1 b2 b3 b4
  unfold Builtin.Range.small Builtin.Range.rangeFitsLong
  simp only [Bool.and_eq_true, Bool.or_eq_true, decide_eq_true_eq, beq_iff_eq, e63, gt_iff_lt, if_pos hc]
  omega
theorem rngS_pos {i j c : Int} (bi : bnd i) (bj : bnd j) (hc : 0 < c) (hc2 : c < 1073741824) : rngS [.int i, .int j, .int c] = .ok (rngC i c (Builtin.Range.rangeSize i j c).toNat) := by
  unfold rngS
  simp only
  rw [if_pos (okRange_pos bi bj hc hc2)]
theorem rng1_ok {j : Int} (bj : bnd j) : rng1 [.int j] = .ok (rngL 0 j.toNat) := by unfold rng1; simp only; rw [if_pos bj]
theorem rng2_ok {i j : Int} (bi : bnd i) (bj : bnd j) : rng2 [.int i, .int j] = .ok (rngL i (j - i).toNat) := by unfold rng2; simp only; rw [if_pos ⟨bi, bj⟩]
theorem bnd_of {j : Int} (h : -4611686018427387904 ≤ j) (h2 : j < 4611686018427387904) : bnd j := by
  have e62 : (2 : Int) ^ 62 = 4611686018427387904 := by decide
  unfold bnd
  rw [e62]
  omega

/-! loops and comprehensions -/
/-- a loop whose turns all go on: an invariant by the turn -/
theorem forL_nx {tf : D → Env → Option Env} {b : Env → Sr} (I : Nat → Env → Prop) : ∀ {ds : List D} {ρ : Env} (n : Nat), I n ρ →
    (∀ i d ρ, ds[i]? = some d → I (n + i) ρ → ∃ ρ1 ρ2, tf d ρ = some ρ1 ∧ (b ρ1 = .nx ρ2 ∨ b ρ1 = .ct ρ2) ∧ I (n + i + 1) ρ2) → ∃ ρ', forL tf b ds ρ = .nx ρ' ∧ I (n + ds.length) ρ'
  | [], ρ, n, h, _ => ⟨ρ, rfl, h⟩
  | d :: ds, ρ, n, h, k => by
    obtain ⟨ρ1, ρ2, h1, h2, h3⟩ := k 0 d ρ rfl h
    obtain ⟨ρ', q1, q2⟩ := forL_nx I (ds := ds) (ρ := ρ2) (n + 1) h3 fun i d ρ hd hi => by
      have := k (i + 1) d ρ (by simpa using hd) (by rw [← Nat.add_assoc, Nat.add_right_comm]; exact hi)
      rw [← Nat.add_assoc, Nat.add_right_comm n i 1] at this
      exact this
    refine ⟨ρ', ?_, by rw [List.length_cons, Nat.add_comm ds.length 1, ← Nat.add_assoc]; exact q2⟩
    unfold forL
    rw [h1]
    simp only
    rcases h2 with e | e <;> rw [e] <;> exact q1
theorem forL_i {tf : D → Env → Option Env} {b : Env → Sr} (I : Nat → Env → Prop) {ds : List D} {ρ : Env} (h : I 0 ρ)
    (k : ∀ i d ρ, ds[i]? = some d → I i ρ → ∃ ρ1 ρ2, tf d ρ = some ρ1 ∧ (b ρ1 = .nx ρ2 ∨ b ρ1 = .ct ρ2) ∧ I (i + 1) ρ2) : ∃ ρ', forL tf b ds ρ = .nx ρ' ∧ I ds.length ρ' := by
  obtain ⟨ρ', h1, h2⟩ := forL_nx I 0 h fun i d ρ hd hi => by
    rw [Nat.zero_add] at hi ⊢
    exact k i d ρ hd hi
  exact ⟨ρ', h1, by rw [Nat.zero_add] at h2; exact h2⟩
/-- a turn that goes on, to where I holds -/
def Go (I : Env → Prop) : Sr → Prop
  | .nx ρ => I ρ
  | .ct ρ => I ρ
  | _ => False
theorem Go_nx {I : Env → Prop} {ρ : Env} : Go I (.nx ρ) = I ρ := rfl
theorem Go_ct {I : Env → Prop} {ρ : Env} : Go I (.ct ρ) = I ρ := rfl
theorem body_for {tf : D → Env → Option Env} {b q : Env → Sr} {ds : List D} {ρ : Env} {x : R D} (I : Env → Prop) (h : I ρ)
    (k : ∀ d ∈ ds, ∀ ρ, I ρ → ∃ ρ1, tf d ρ = some ρ1 ∧ Go I (b ρ1)) (fin : ∀ ρ, I ρ → bodyR (q ρ) = x) : bodyR ((forL tf b ds ρ).seq q) = x := by
  obtain ⟨ρ', h1, h2⟩ := forL_i (tf := tf) (b := b) (ds := ds) (fun _ => I) h fun i d ρ hd hi => by
    obtain ⟨ρ1, e1, e2⟩ := k d (List.mem_of_getElem? hd) ρ hi
    cases hb : b ρ1 with
    | nx ρ2 => rw [hb] at e2; exact ⟨ρ1, ρ2, e1, .inl hb, e2⟩
    | ct ρ2 => rw [hb] at e2; exact ⟨ρ1, ρ2, e1, .inr hb, e2⟩
    | st => rw [hb] at e2; exact e2.elim
    | rt d => rw [hb] at e2; exact e2.elim
    | bk ρ2 => rw [hb] at e2; exact e2.elim
    | ex c => rw [hb] at e2; exact e2.elim
  rw [h1]
  exact fin ρ' h2
/-- a loop by a state of one's own: enc tells the slots -/
theorem forL_enc {α : Type} {tf : D → Env → Option Env} {b : Env → Sr} (enc : α → Env → Prop) (step : α → D → α) : ∀ {ds : List D} {ρ : Env} {a : α}, enc a ρ →
    (∀ d ∈ ds, ∀ a ρ, enc a ρ → ∃ ρ1 ρ2, tf d ρ = some ρ1 ∧ (b ρ1 = .nx ρ2 ∨ b ρ1 = .ct ρ2) ∧ enc (step a d) ρ2) → ∃ ρ', forL tf b ds ρ = .nx ρ' ∧ enc (ds.foldl step a) ρ'
  | [], ρ, a, h, _ => ⟨ρ, rfl, h⟩
  | d :: ds, ρ, a, h, k => by
    obtain ⟨ρ1, ρ2, h1, h2, h3⟩ := k d List.mem_cons_self a ρ h
    obtain ⟨ρ', q1, q2⟩ := forL_enc enc step (ds := ds) h3 fun d hd => k d (List.mem_cons_of_mem _ hd)
    refine ⟨ρ', ?_, q2⟩
    unfold forL
    rw [h1]
    simp only
    rcases h2 with e | e <;> rw [e] <;> exact q1
theorem rngC_mem {lo c : Int} {n : Nat} {d : D} (h : d ∈ rngC lo c n) : ∃ i : Nat, i < n ∧ d = .int (lo + (i : Int) * c) := by
  obtain ⟨i, h1, h2⟩ := List.mem_map.mp h
  exact ⟨i, List.mem_range.mp h1, h2.symm⟩
theorem rngL_mem {lo : Int} {n : Nat} {d : D} (h : d ∈ rngL lo n) : ∃ i : Nat, i < n ∧ d = .int (lo + (i : Int)) := by
  obtain ⟨i, h1, h2⟩ := List.mem_map.mp h
  exact ⟨i, List.mem_range.mp h1, h2.symm⟩
/-- a comprehension without a test -/
theorem lcL_map {vs : List Nat} {tf : D → Env → Option Env} {f : Env → R D} {ρ : Env} (g : D → D) : ∀ {ds : List D}, (∀ d ∈ ds, ∃ ρ1, tf d (wipeD ρ vs) = some ρ1 ∧ f ρ1 = .ok (g d)) → lcL vs tf yesT f ρ ds = .ok (ds.map g)
  | [], _ => rfl
  | d :: ds, k => by
    obtain ⟨ρ1, h1, h2⟩ := k d List.mem_cons_self
    have ih := lcL_map g (ds := ds) fun d hd => k d (List.mem_cons_of_mem _ hd)
    unfold lcL
    rw [h1]
    simp only [yesT, nox, R.bind_ok, if_true, h2, ih, List.map_cons]
theorem lcE_map {vs : List Nat} {fi : Env → R (List D)} {tf : D → Env → Option Env} {f : Env → R D} {ρ : Env} {ds : List D} (g : D → D) (hi : fi ρ = .ok ds) (hl : ds.length ≤ sizeLine) (h : ∀ d ∈ ds, ∃ ρ1, tf d (wipeD ρ vs) = some ρ1 ∧ f ρ1 = .ok (g d)) :
    lcE vs fi tf yesT f ρ = .ok (.lst (ds.map g)) := by
  unfold lcE
  rw [hi, R.bind_ok, if_pos hl, lcL_map g h, R.bind_ok]
theorem le_line1000 {n : Nat} (h : n ≤ 16000000) : n ≤ sizeLine := by rw [sizeLine_eq]; omega
theorem rngC_length (lo c : Int) (n : Nat) : (rngC lo c n).length = n := by simp [rngC]
theorem rngL_length (lo : Int) (n : Nat) : (rngL lo n).length = n := by simp [rngL]
theorem intsO_map : ∀ ns : List Int, intsO (ns.map D.int) = some ns
  | [] => rfl
  | n :: ns => by rw [List.map_cons, intsO, intsO_map ns]; rfl
theorem atI_int {ns : List Int} {k : Int} (h0 : 0 ≤ k) (h : k < ns.length) : atI (ns.map D.int) k = some (.int (ns.getD k.toNat 0)) := by
  rw [atI_lt h0 (by rw [List.length_map]; exact h), List.getElem?_map]
  have hk : k.toNat < ns.length := by omega
  rw [List.getElem?_eq_getElem hk, List.getD_eq_getElem?_getD, List.getElem?_eq_getElem hk]
  rfl
theorem ixD_ints {ns : List Int} {k : Int} (h0 : 0 ≤ k) (h : k < ns.length) : ixD (.lst (ns.map D.int)) (.int k) = .ok (.int (ns.getD k.toNat 0)) := by
  unfold ixD
  simp only
  rw [atI_int h0 h]
/-! places of a written row -/
theorem ix0_lst (a : D) (l : List D) : ixD (.lst (a :: l)) (.int 0) = .ok a := ixD_lst (by decide) rfl
theorem ix0_tup (a : D) (l : List D) : ixD (.tup (a :: l)) (.int 0) = .ok a := ixD_tup (by decide) rfl
theorem ix1_lst (a b : D) (l : List D) : ixD (.lst (a :: b :: l)) (.int 1) = .ok b := ixD_lst (by decide) rfl
theorem ix1_tup (a b : D) (l : List D) : ixD (.tup (a :: b :: l)) (.int 1) = .ok b := ixD_tup (by decide) rfl
theorem ix2_lst (a b c : D) (l : List D) : ixD (.lst (a :: b :: c :: l)) (.int 2) = .ok c := ixD_lst (by decide) rfl
theorem ix2_tup (a b c : D) (l : List D) : ixD (.tup (a :: b :: c :: l)) (.int 2) = .ok c := ixD_tup (by decide) rfl
theorem ix3_lst (a b c d : D) (l : List D) : ixD (.lst (a :: b :: c :: d :: l)) (.int 3) = .ok d := ixD_lst (by decide) rfl
theorem ix3_tup (a b c d : D) (l : List D) : ixD (.tup (a :: b :: c :: d :: l)) (.int 3) = .ok d := ixD_tup (by decide) rfl
theorem ix4_lst (a b c d e : D) (l : List D) : ixD (.lst (a :: b :: c :: d :: e :: l)) (.int 4) = .ok e := ixD_lst (by decide) rfl
theorem ix4_tup (a b c d e : D) (l : List D) : ixD (.tup (a :: b :: c :: d :: e :: l)) (.int 4) = .ok e := ixD_tup (by decide) rfl
theorem ix5_lst (a b c d e f : D) (l : List D) : ixD (.lst (a :: b :: c :: d :: e :: f :: l)) (.int 5) = .ok f := ixD_lst (by decide) rfl
theorem ix5_tup (a b c d e f : D) (l : List D) : ixD (.tup (a :: b :: c :: d :: e :: f :: l)) (.int 5) = .ok f := ixD_tup (by decide) rfl
/-! equality of like data -/
inductive Fl : Nat → D → Prop where
  | non {n : Nat} : Fl n .non
  | bl {n : Nat} (b : Bool) : Fl n (.bl b)
  | int {n : Nat} (i : Int) : Fl n (.int i)
  | lst {n : Nat} {xs : List D} (h : ∀ x ∈ xs, Fl n x) : Fl (n + 1) (.lst xs)
  | tup {n : Nat} {xs : List D} (h : ∀ x ∈ xs, Fl n x) : Fl (n + 1) (.tup xs)
def FlP (n : Nat) (p : PyData) : Prop := p.canLay0 = true ∧ p.depth ≤ n ∧ PyData.eqv p p = true
theorem flPs {n : Nat} : ∀ {xs : List D}, (∀ x ∈ xs, FlP n (pyD x)) → PyData.canLayAll0 (pyDs xs) = true ∧ PyData.depthAll (pyDs xs) ≤ n ∧ PyData.eqvAll (pyDs xs) (pyDs xs) = true
  | [], _ => ⟨by simp only [pyDs, PyData.canLayAll0], by simp only [pyDs, PyData.depthAll]; omega, by simp only [pyDs, PyData.eqvAll]⟩
  | x :: xs, h => by
    obtain ⟨a1, a2, a3⟩ := h x List.mem_cons_self
    obtain ⟨b1, b2, b3⟩ := flPs (xs := xs) fun y hy => h y (List.mem_cons_of_mem _ hy)
    refine ⟨?_, ?_, ?_⟩
    · simp only [pyDs, PyData.canLayAll0, a1, b1, Bool.and_self]
    · simp only [pyDs, PyData.depthAll]; omega
    · simp only [pyDs, PyData.eqvAll, a3, b3, Bool.and_self]
theorem Fl.p {n : Nat} {d : D} (h : Fl n d) : FlP n (pyD d) := by
  induction h with
  | non => exact ⟨by simp only [pyD, PyData.canLay0], by simp only [pyD, PyData.depth]; omega, by simp only [pyD, PyData.eqv]⟩
  | bl b => exact ⟨by simp only [pyD, PyData.canLay0], by simp only [pyD, PyData.depth]; omega, by simp only [pyD, PyData.eqv]; exact beq_self_eq_true b⟩
  | int i => exact ⟨by simp only [pyD, PyData.canLay0], by simp only [pyD, PyData.depth]; omega, by simp only [pyD, PyData.eqv]; exact beq_self_eq_true i⟩
  | lst _ ih =>
    obtain ⟨b1, b2, b3⟩ := flPs ih
    exact ⟨by simp only [pyD, PyData.canLay0]; exact b1, by simp only [pyD, PyData.depth]; omega, by simp only [pyD, PyData.eqv]; exact b3⟩
  | tup _ ih =>
    obtain ⟨b1, b2, b3⟩ := flPs ih
    exact ⟨by simp only [pyD, PyData.canLay0]; exact b1, by simp only [pyD, PyData.depth]; omega, by simp only [pyD, PyData.eqv]; exact b3⟩
theorem Fl.shaped {n : Nat} {d : D} (h : Fl n d) (hn : n ≤ 64) : SeqAt.shaped (pyD d) = true := by
  obtain ⟨a1, a2, _⟩ := h.p
  show ((pyD d).canLay0 && decide ((pyD d).depth ≤ 64)) = true
  rw [a1, decide_eq_true (Nat.le_trans a2 hn)]
  rfl
theorem eqD_self {d : D} {n : Nat} (h : Fl n d) (hn : n ≤ 64) : eqD d d = .ok (.bl true) := by
  unfold eqD
  rw [if_pos ⟨h.shaped hn, h.shaped hn⟩, show eqB d d = true from h.p.2.2]
theorem neD_self {d : D} {n : Nat} (h : Fl n d) (hn : n ≤ 64) : neD d d = .ok (.bl false) := by
  unfold neD
  rw [if_pos ⟨h.shaped hn, h.shaped hn⟩, show eqB d d = true from h.p.2.2]
  rfl
theorem fl_ints {n : Nat} (ns : List Int) : ∀ x ∈ ns.map D.int, Fl n x := fun x hx => by
  obtain ⟨i, _, h⟩ := List.mem_map.mp hx
  subst h
  exact .int i
theorem fl_pair {n : Nat} (a b : Int) : Fl (n + 1) (.tup [.int a, .int b]) := .tup (fl_ints [a, b])
theorem eqD_pair (a b : Int) : eqD (.tup [.int a, .int b]) (.tup [.int a, .int b]) = .ok (.bl true) := eqD_self (n := 1) (fl_pair a b) (by decide)
theorem neD_pair (a b : Int) : neD (.tup [.int a, .int b]) (.tup [.int a, .int b]) = .ok (.bl false) := neD_self (n := 1) (fl_pair a b) (by decide)
theorem addD_int (i j : Int) : addD (.int i) (.int j) = .ok (.int (i + j)) := rfl
theorem subD_int (i j : Int) : subD (.int i) (.int j) = .ok (.int (i - j)) := rfl
theorem ltD_int (i j : Int) : ltD (.int i) (.int j) = .ok (.bl (decide (i < j))) := rfl
theorem leD_int (i j : Int) : leD (.int i) (.int j) = .ok (.bl (decide (i ≤ j))) := rfl
theorem gtD_int (i j : Int) : gtD (.int i) (.int j) = .ok (.bl (decide (j < i))) := rfl
theorem geD_int (i j : Int) : geD (.int i) (.int j) = .ok (.bl (decide (j ≤ i))) := rfl
theorem negD_int (i : Int) : negD (.int i) = .ok (.int (-i)) := rfl
theorem lenD_lst (xs : List D) : lenD [.lst xs] = .ok (.int xs.length) := rfl
theorem lenD_tup (xs : List D) : lenD [.tup xs] = .ok (.int xs.length) := rfl
theorem absD_int (i : Int) : absD [.int i] = .ok (.int (if i < 0 then -i else i)) := rfl
theorem len_2 (a b : D) : (([a, b] : List D).length : Int) = 2 := rfl
theorem len_1 (a : D) : (([a] : List D).length : Int) = 1 := rfl
theorem len_3 (a b c : D) : (([a, b, c] : List D).length : Int) = 3 := rfl
theorem len_0 : ((([] : List D)).length : Int) = 0 := rfl
def chK (k : D → R D) (r : R D) : D → R D
  | .bl true => r.bind k
  | .bl false => .ok (.bl false)
  | _ => .st
theorem chD_eq (gd gd' : D → D → R D) (f g h : Env → R D) (ρ : Env) : chD gd gd' f g h ρ = (f ρ).bind fun x => (g ρ).bind fun y => (gd x y).bind (chK (gd' y) (h ρ)) := by
  unfold chD
  have e : ∀ y, (fun z : D => match z with | .bl true => (h ρ).bind fun w => gd' y w | .bl false => .ok (.bl false) | _ => .st) = chK (gd' y) (h ρ) := fun y => by
    funext z
    unfold chK
    rfl
  rfl
theorem chK_bl (k : D → R D) (r : R D) (p : Bool) : chK k r (.bl p) = if p = true then r.bind k else .ok (.bl false) := by cases p <;> rfl
theorem ite_bl (P : Prop) [Decidable P] (q : Bool) : (if P then R.ok (D.bl q) else R.ok (D.bl false)) = R.ok (D.bl (decide P && q)) := by
  by_cases h : P
  · rw [if_pos h, decide_eq_true h]; rfl
  · rw [if_neg h, decide_eq_false h]; rfl
theorem eqD_bl (b : Bool) : eqD (.bl b) (.bl b) = .ok (.bl true) := eqD_self (n := 0) (.bl b) (by decide)
theorem maxD_int (i j : Int) : maxD [.int i, .int j] = .ok (.int (maxI i j)) := rfl
theorem minD_int (i j : Int) : minD [.int i, .int j] = .ok (.int (minI i j)) := rfl
theorem maxD_l2 (i j : Int) : maxD [.lst [.int i, .int j]] = .ok (.int (maxI i j)) := rfl
theorem minD_l2 (i j : Int) : minD [.lst [.int i, .int j]] = .ok (.int (minI i j)) := rfl
/-! rows of ints -/
theorem listD_ints (ns : List Int) : listD [.lst (ns.map D.int)] = .ok (.lst (ns.map D.int)) := by
  unfold listD; simp only; rw [if_pos (immDs_ints ns)]
theorem ixN_lt {n : Nat} {k : Int} (h0 : 0 ≤ k) (h : k < n) : ixN n k = some k.toNat := by unfold ixN; rw [if_pos h0, if_pos h]
theorem setS_ints {i : Nat} {fk fe : Env → R D} {ρ : Env} {ns : List Int} {k v : Int} (he : fe ρ = .ok (.int v)) (hρ : ρ[i]? = some (some (.lst (ns.map D.int)))) (hk : fk ρ = .ok (.int k)) (h0 : 0 ≤ k) (h : k < ns.length) :
    setS i fk fe ρ = .nx (ρ.set i (some (.lst ((ns.set k.toNat v).map D.int)))) := by
  unfold setS
  rw [he]
  simp only [bindS_ok]
  rw [hρ]
  simp only
  rw [hk]
  simp only [bindS_ok]
  rw [ixN_lt h0 (by rw [List.length_map]; exact h)]
  simp only
  rw [List.map_set]
theorem appS_ints {i : Nat} {f : Env → R D} {ρ : Env} {ns : List Int} {v : Int} (he : f ρ = .ok (.int v)) (hρ : ρ[i]? = some (some (.lst (ns.map D.int)))) (h : ns.length < 16000000) :
    appS i f ρ = .nx (ρ.set i (some (.lst ((ns ++ [v]).map D.int)))) := by
  unfold appS
  rw [hρ]
  simp only
  rw [he]
  simp only [bindS_ok]
  rw [if_pos (by rw [sizeLine_eq, List.length_map]; omega), List.map_append]
  rfl
theorem rangeSize_spec {i j c : Int} (hc : 0 < c) : (∀ t : Nat, t < (Builtin.Range.rangeSize i j c).toNat → i + (t : Int) * c < j) ∧ j ≤ i + ((Builtin.Range.rangeSize i j c).toNat : Int) * c := by
  unfold Builtin.Range.rangeSize
  rw [if_pos hc]
  split
  · rename_i h
    have h1 := Int.mul_ediv_self_le (x := j - i - 1) (k := c) (by omega)
    have h2 := Int.lt_mul_ediv_self_add (x := j - i - 1) (k := c) hc
    have h3 := Int.ediv_nonneg (a := j - i - 1) (b := c) (by omega) (by omega)
    generalize (j - i - 1) / c = q at *
    rw [Int.mul_comm] at h1 h2
    constructor
    · intro t ht
      have := Int.mul_le_mul_of_nonneg_right (show (t : Int) ≤ q by omega) (show 0 ≤ c by omega)
      omega
    · rw [Int.toNat_of_nonneg (by omega), Int.add_mul, Int.one_mul]
      omega
  · rename_i h
    constructor
    · intro t ht
      exact absurd ht (by simp)
    · simp only [Int.toNat_zero]
      omega
theorem rngC_at {lo c : Int} {n i : Nat} {d : D} (h : (rngC lo c n)[i]? = some d) : i < n ∧ d = .int (lo + (i : Int) * c) := by
  have h1 := (List.getElem?_eq_some_iff.mp h).1
  rw [rngC_length] at h1
  refine ⟨h1, ?_⟩
  unfold rngC at h
  rw [List.getElem?_map, List.getElem?_range h1] at h
  exact (Option.some.inj h).symm
theorem rngL_at {lo : Int} {n i : Nat} {d : D} (h : (rngL lo n)[i]? = some d) : i < n ∧ d = .int (lo + (i : Int)) := by
  have h1 := (List.getElem?_eq_some_iff.mp h).1
  rw [rngL_length] at h1
  refine ⟨h1, ?_⟩
  unfold rngL at h
  rw [List.getElem?_map, List.getElem?_range h1] at h
  exact (Option.some.inj h).symm
/-- a loop by its turns -/
theorem forL_go {tf : D → Env → Option Env} {b : Env → Sr} {ds : List D} {ρ : Env} (I : Nat → Env → Prop) (h : I 0 ρ)
    (k : ∀ i d, ds[i]? = some d → ∀ ρ, I i ρ → ∃ ρ1, tf d ρ = some ρ1 ∧ Go (I (i + 1)) (b ρ1)) : ∃ ρ', forL tf b ds ρ = .nx ρ' ∧ I ds.length ρ' := by
  refine forL_i (tf := tf) (b := b) (ds := ds) I h fun i d ρ hd hi => ?_
  obtain ⟨ρ1, e1, e2⟩ := k i d hd ρ hi
  cases hb : b ρ1 with
  | nx ρ2 => rw [hb] at e2; exact ⟨ρ1, ρ2, e1, .inl hb, e2⟩
  | ct ρ2 => rw [hb] at e2; exact ⟨ρ1, ρ2, e1, .inr hb, e2⟩
  | st => rw [hb] at e2; exact e2.elim
  | rt d => rw [hb] at e2; exact e2.elim
  | bk ρ2 => rw [hb] at e2; exact e2.elim
  | ex c => rw [hb] at e2; exact e2.elim
theorem body_forI {tf : D → Env → Option Env} {b q : Env → Sr} {ds : List D} {ρ : Env} {x : R D} (I : Nat → Env → Prop) (h : I 0 ρ)
    (k : ∀ i d, ds[i]? = some d → ∀ ρ, I i ρ → ∃ ρ1, tf d ρ = some ρ1 ∧ Go (I (i + 1)) (b ρ1)) (fin : ∀ ρ, I ds.length ρ → bodyR (q ρ) = x) : bodyR ((forL tf b ds ρ).seq q) = x := by
  obtain ⟨ρ', h1, h2⟩ := forL_go I h k
  rw [h1]
  exact fin ρ' h2
theorem Go.seq {J : Env → Prop} {s : Sr} {q : Env → Sr} {I : Env → Prop} (h : ∃ ρ, s = .nx ρ ∧ J ρ) (k : ∀ ρ, J ρ → Go I (q ρ)) : Go I (s.seq q) := by
  obtain ⟨ρ, h1, h2⟩ := h
  rw [h1]
  exact k ρ h2
theorem Go.mono {I J : Env → Prop} {s : Sr} (h : Go I s) (k : ∀ ρ, I ρ → J ρ) : Go J s := by
  cases s with
  | nx ρ => exact k ρ h
  | ct ρ => exact k ρ h
  | st => exact h
  | rt d => exact h
  | bk ρ => exact h
  | ex c => exact h
theorem maxD_ints (n : Int) (ns : List Int) : maxD [.lst ((n :: ns).map D.int)] = .ok (.int (maxL (n :: ns))) := by
  unfold maxD
  simp only
  rw [intsO_map]
theorem minD_ints (n : Int) (ns : List Int) : minD [.lst ((n :: ns).map D.int)] = .ok (.int (minL (n :: ns))) := by
  unfold minD
  simp only
  rw [intsO_map]
theorem foldl_maxI : ∀ (r : List Int) (x : Int), x ≤ r.foldl maxI x ∧ (∀ y ∈ r, y ≤ r.foldl maxI x) ∧ (r.foldl maxI x = x ∨ r.foldl maxI x ∈ r)
  | [], x => ⟨Int.le_refl _, (fun y h => nomatch h), .inl rfl⟩
  | y :: r, x => by
    obtain ⟨a1, a2, a3⟩ := foldl_maxI r (maxI x y)
    have h1 : x ≤ maxI x y ∧ y ≤ maxI x y ∧ (maxI x y = x ∨ maxI x y = y) := by
      unfold maxI
      split <;> omega
    rw [List.foldl_cons]
    refine ⟨by omega, fun z hz => ?_, ?_⟩
    · rcases List.mem_cons.mp hz with e | h
      · subst e; omega
      · exact a2 z h
    · rcases a3 with e | h
      · rcases h1.2.2 with g | g
        · exact .inl (e.trans g)
        · exact .inr (by rw [e, g]; exact List.mem_cons_self)
      · exact .inr (List.mem_cons_of_mem _ h)
theorem maxL_spec {ns : List Int} (h : ns ≠ []) : maxL ns ∈ ns ∧ ∀ y ∈ ns, y ≤ maxL ns := by
  cases ns with
  | nil => exact absurd rfl h
  | cons n ns =>
    obtain ⟨a1, a2, a3⟩ := foldl_maxI ns n
    refine ⟨?_, fun y hy => ?_⟩
    · show ns.foldl maxI n ∈ n :: ns
      rcases a3 with e | g
      · rw [e]; exact List.mem_cons_self
      · exact List.mem_cons_of_mem _ g
    · show y ≤ ns.foldl maxI n
      rcases List.mem_cons.mp hy with e | g
      · subst e; exact a1
      · exact a2 y g
theorem bls_map : ∀ bs : List Bool, bls (bs.map D.bl) = some bs
  | [] => rfl
  | b :: bs => by rw [List.map_cons, bls, bls_map bs]; rfl
theorem anyD_bls (bs : List Bool) : anyD [.lst (bs.map D.bl)] = .ok (.bl (bs.any id)) := by
  unfold anyD
  simp only
  rw [bls_map]
theorem allD_bls (bs : List Bool) : allD [.lst (bs.map D.bl)] = .ok (.bl (bs.all id)) := by
  unfold allD
  simp only
  rw [bls_map]
/-! rows lifted in place, of anything: at the places of half h each next thing is made of it and its neighbours at the stride -/
section lg
variable {α : Type}
def lgNew (z : α) (F : α → α → α → α) (xs : List α) (S p : Nat) : α :=
  if p < S ∧ xs.length ≤ p + S then xs.getD p z else
    F (xs.getD p z) (xs.getD (if p < S then p + S else p - S) z) (xs.getD (if xs.length ≤ p + S then p - S else p + S) z)
def lgAt (z : α) (F : α → α → α → α) (xs : List α) (S h b i : Nat) : α :=
  if i % S = 0 ∧ (i / S) % 2 = h ∧ i < b then lgNew z F xs S i else xs.getD i z
def lgB (z : α) (F : α → α → α → α) (xs : List α) (S h b : Nat) : List α := (List.range xs.length).map (lgAt z F xs S h b)
def lg (z : α) (F : α → α → α → α) (xs : List α) (S h : Nat) : List α := lgB z F xs S h xs.length
variable {z : α} {F : α → α → α → α} {xs : List α} {S h b t : Nat}
theorem lgB_length : (lgB z F xs S h b).length = xs.length := by simp [lgB]
theorem lg_length : (lg z F xs S h).length = xs.length := lgB_length
theorem lgB_getD {i : Nat} (hi : i < xs.length) : (lgB z F xs S h b).getD i z = lgAt z F xs S h b i := by
  unfold lgB
  rw [List.getD_eq_getElem?_getD, List.getElem?_map, List.getElem?_range hi]
  rfl
theorem lg_none {i : Nat} (hi : xs.length ≤ i) : xs.getD i z = z := by
  rw [List.getD_eq_getElem?_getD, List.getElem?_eq_none hi]
  rfl
theorem lgB_none {i : Nat} (k : i % S = 0 ∧ (i / S) % 2 = h ∧ i < b → False) : (lgB z F xs S h b).getD i z = xs.getD i z := by
  by_cases hi : i < xs.length
  · rw [lgB_getD hi]
    unfold lgAt
    rw [if_neg k]
  · rw [lg_none (by rw [lgB_length]; omega), lg_none (by omega)]
theorem lg_ext {xs ys : List α} (z : α) (hl : xs.length = ys.length) (k : ∀ i, i < xs.length → xs.getD i z = ys.getD i z) : xs = ys := by
  refine List.ext_getElem hl fun i h1 h2 => ?_
  have := k i h1
  rw [List.getD_eq_getElem?_getD, List.getD_eq_getElem?_getD, List.getElem?_eq_getElem h1, List.getElem?_eq_getElem h2] at this
  exact this
theorem lgB_start (hS : 0 < S) (hb : b ≤ h * S) (hh : h ≤ 1) : lgB z F xs S h b = xs := by
  refine lg_ext z lgB_length fun i hi => ?_
  rw [lgB_none]
  rintro ⟨h1, h2, h3⟩
  have h4 := Nat.div_add_mod i S
  have h5 : i / S < h := Nat.lt_of_mul_lt_mul_right (a := S) (by rw [Nat.mul_comm]; omega)
  generalize i / S = q at h2 h5
  omega
theorem lgB_end (hb : xs.length ≤ b) : lgB z F xs S h b = lg z F xs S h := by
  refine lg_ext z (by rw [lgB_length, lg_length]) fun i hi => ?_
  rw [lgB_length] at hi
  unfold lg
  rw [lgB_getD hi, lgB_getD hi]
  unfold lgAt
  simp only [hi, show i < b by omega, and_true]
theorem lg_hit (hS : 0 < S) (hh : h ≤ 1) : ((h + 2 * t) * S) % S = 0 ∧ (((h + 2 * t) * S) / S) % 2 = h := by
  rw [Nat.mul_mod_left, Nat.mul_div_cancel _ hS]
  exact ⟨rfl, by omega⟩
theorem lg_right (hS : 0 < S) (hh : h ≤ 1) : (((h + 2 * t) * S + S) / S) % 2 ≠ h := by
  rw [← Nat.succ_mul, Nat.mul_div_cancel _ hS]
  omega
theorem lg_left (hS : 0 < S) (hh : h ≤ 1) (hp : S ≤ (h + 2 * t) * S) : (((h + 2 * t) * S - S) / S) % 2 ≠ h := by
  have h1 : 1 ≤ h + 2 * t := by
    cases hk : h + 2 * t with
    | zero => rw [hk, Nat.zero_mul] at hp; omega
    | succ k => omega
  rw [show (h + 2 * t) * S - S = (h + 2 * t - 1) * S from (Nat.sub_one_mul _ _).symm, Nat.mul_div_cancel _ hS]
  omega
/-- at the next place the half lifted row still tells what the row told -/
theorem lg_step_new (hS : 0 < S) (hh : h ≤ 1) : lgNew z F (lgB z F xs S h ((h + 2 * t) * S)) S ((h + 2 * t) * S) = lgNew z F xs S ((h + 2 * t) * S) := by
  unfold lgNew
  rw [lgB_length]
  have e0 : (lgB z F xs S h ((h + 2 * t) * S)).getD ((h + 2 * t) * S) z = xs.getD ((h + 2 * t) * S) z := lgB_none fun k => Nat.lt_irrefl _ k.2.2
  rw [e0]
  split
  · rfl
  · rename_i hn
    have e1 : (lgB z F xs S h ((h + 2 * t) * S)).getD (if (h + 2 * t) * S < S then (h + 2 * t) * S + S else (h + 2 * t) * S - S) z = xs.getD (if (h + 2 * t) * S < S then (h + 2 * t) * S + S else (h + 2 * t) * S - S) z := by
      split
      · exact lgB_none fun ⟨_, k, _⟩ => lg_right hS hh k
      · exact lgB_none fun ⟨_, k, _⟩ => lg_left hS hh (by omega) k
    have e2 : (lgB z F xs S h ((h + 2 * t) * S)).getD (if xs.length ≤ (h + 2 * t) * S + S then (h + 2 * t) * S - S else (h + 2 * t) * S + S) z = xs.getD (if xs.length ≤ (h + 2 * t) * S + S then (h + 2 * t) * S - S else (h + 2 * t) * S + S) z := by
      split
      · exact lgB_none fun ⟨_, k, _⟩ => lg_left hS hh (by omega) k
      · exact lgB_none fun ⟨_, k, _⟩ => lg_right hS hh k
    rw [e1, e2]
theorem lg_step_set (hS : 0 < S) (hh : h ≤ 1) (hp : (h + 2 * t) * S < xs.length) :
    (lgB z F xs S h ((h + 2 * t) * S)).set ((h + 2 * t) * S) (lgNew z F xs S ((h + 2 * t) * S)) = lgB z F xs S h ((h + 2 * (t + 1)) * S) := by
  have e : (h + 2 * (t + 1)) * S = (h + 2 * t) * S + 2 * S := by rw [← Nat.add_mul]; congr 1
  refine lg_ext z (by rw [List.length_set, lgB_length, lgB_length]) fun i hi => ?_
  rw [List.length_set, lgB_length] at hi
  rw [List.getD_eq_getElem?_getD, List.getElem?_set]
  by_cases hq : (h + 2 * t) * S = i
  · rw [if_pos hq, if_pos (by rw [lgB_length]; omega), lgB_getD hi]
    unfold lgAt
    have := lg_hit (t := t) hS hh
    rw [hq] at this
    rw [if_pos ⟨this.1, this.2, by rw [e]; omega⟩, hq]
    rfl
  · rw [if_neg hq, ← List.getD_eq_getElem?_getD, lgB_getD hi, lgB_getD hi]
    unfold lgAt
    by_cases h1 : i % S = 0 ∧ (i / S) % 2 = h
    · have h4 := Nat.div_add_mod i S
      rw [h1.1, Nat.add_zero, Nat.mul_comm] at h4
      by_cases h2 : i < (h + 2 * t) * S
      · rw [if_pos ⟨h1.1, h1.2, h2⟩, if_pos ⟨h1.1, h1.2, by rw [e]; omega⟩]
      · rw [if_neg (fun k => h2 k.2.2), if_neg]
        rintro ⟨_, _, h3⟩
        have h5 : i / S < h + 2 * (t + 1) := Nat.lt_of_mul_lt_mul_right (a := S) (by omega)
        have h6 : ¬ i / S < h + 2 * t := fun h7 => h2 (by
          have := Nat.mul_lt_mul_of_pos_right h7 hS
          omega)
        have h7 : i / S = h + 2 * t := by omega
        rw [h7] at h4
        exact hq h4
    · rw [if_neg (fun k => h1 ⟨k.1, k.2.1⟩), if_neg (fun k => h1 ⟨k.1, k.2.1⟩)]
theorem lg_short (hl : xs.length ≤ S) : lg z F xs S h = xs := by
  refine lg_ext z lg_length fun i hi => ?_
  rw [lg_length] at hi
  unfold lg
  rw [lgB_getD hi]
  unfold lgAt
  split
  · unfold lgNew
    rw [if_pos ⟨by omega, by omega⟩]
  · rfl
def lgParts (z : α) (xs : List α) (S P : Nat) : List α := (List.range P).map fun k => xs.getD (k * S) z
theorem lgParts_length {P : Nat} : (lgParts z xs S P).length = P := by simp [lgParts]
theorem lgParts_getD {P k : Nat} (hk : k < P) : (lgParts z xs S P).getD k z = xs.getD (k * S) z := by
  unfold lgParts
  rw [List.getD_eq_getElem?_getD, List.getElem?_map, List.getElem?_range hk]
  rfl
theorem lgNew_k {P k : Nat} (hS : 0 < S) (hk : k < P) (hP : 1 < P) (h1 : ∀ t, t < P → t * S < xs.length) (h2 : xs.length ≤ P * S) :
    lgNew z F xs S (k * S) = F ((lgParts z xs S P).getD k z) ((lgParts z xs S P).getD (if k = 0 then 1 else k - 1) z) (if k + 1 < P then (lgParts z xs S P).getD (k + 1) z else (lgParts z xs S P).getD (if k = 0 then 1 else k - 1) z) := by
  have e1 : k * S < S ↔ k = 0 := ⟨fun h => by
    cases k with
    | zero => rfl
    | succ j => rw [Nat.succ_mul] at h; omega, fun h => by rw [h, Nat.zero_mul]; exact hS⟩
  have e2 : k * S + S = (k + 1) * S := (Nat.succ_mul k S).symm
  have e3 : xs.length ≤ k * S + S ↔ ¬ k + 1 < P := ⟨fun h h' => by have := h1 _ h'; omega, fun h => by
    have := Nat.mul_le_mul_right S (show P ≤ k + 1 by omega)
    omega⟩
  have e4 : k * S - S = (k - 1) * S := (Nat.sub_one_mul k S).symm
  unfold lgNew
  rw [e2, e4] at *
  rw [lgParts_getD hk]
  by_cases q1 : k = 0
  · have q2 : k + 1 < P := by omega
    rw [if_neg (fun z => e3.mp z.2 q2), if_pos (e1.mpr q1), if_neg (fun z => e3.mp z q2), if_pos q1, if_pos q2, lgParts_getD q2, lgParts_getD hP, q1]
  · rw [if_neg (fun z => q1 (e1.mp z.1)), if_neg (fun z => q1 (e1.mp z)), if_neg q1, lgParts_getD (show k - 1 < P by omega)]
    by_cases q2 : k + 1 < P
    · rw [if_neg (fun z => e3.mp z q2), if_pos q2, lgParts_getD q2]
    · rw [if_pos (e3.mpr q2), if_neg q2]
end lg
theorem body_forE {α : Type} {tf : D → Env → Option Env} {b q : Env → Sr} {ds : List D} {ρ : Env} {x : α → R D} {P : α → Prop} (I : Nat → Env → Prop) (h : I 0 ρ)
    (k : ∀ i d, ds[i]? = some d → ∀ ρ, I i ρ → ∃ ρ1, tf d ρ = some ρ1 ∧ Go (I (i + 1)) (b ρ1)) (fin : ∀ ρ, I ds.length ρ → ∃ a, bodyR (q ρ) = x a ∧ P a) : ∃ a, bodyR ((forL tf b ds ρ).seq q) = x a ∧ P a := by
  obtain ⟨ρ', h1, h2⟩ := forL_go I h k
  rw [h1]
  exact fin ρ' h2
end Vs

namespace Lw
open PySem PySem.Spec PyProof.Rows L2 Vs

def topS (i : Nat) : Stmt := PySem.Challenge.pw_liftwave_k13_breadths_lowered.main.body.getD i (.Pass ⟨0, 0, 0, 0⟩)
structure Txt (K : PySem.W.Frag) (mg : Str → Option Value) : Prop where
  b_abs : mg "abs" = none
  b_bool : mg "bool" = none
  b_int : mg "int" = none
  b_isinstance : mg "isinstance" = none
  b_len : mg "len" = none
  b_list : mg "list" = none
  b_max : mg "max" = none
  b_min : mg "min" = none
  b_range : mg "range" = none
  b_reversed : mg "reversed" = none
  b_tuple : mg "tuple" = none
/-! neighbours -/
abbrev s_neighbours : Stmt := topS 1
theorem sc_neighbours : FnScope ["at", "many", "stride", "left", "right"] ["at", "many", "stride"] (defScope s_neighbours) := ⟨rfl, rfl, rfl, by decide +kernel, rfl, by decide +kernel, by decide +kernel⟩
noncomputable def b_neighbours : Vs.Env → Sr := (seqS (asgS 3 (op2 subD (varE 0) (varE 2)))
    (seqS (asgS 4 (op2 addD (varE 0) (varE 2)))
    (seqS (ifS (andT (boolR (op2 ltD (varE 3) (cE (.int 0)))) (boolR (op2 geD (varE 4) (varE 1)))) (retS (cE .non)) nilS)
    (seqS (ifS (boolR (op2 ltD (varE 3) (cE (.int 0)))) (retS (tupE (consA (imm (varE 4)) (consA (imm (varE 4)) nilA)))) nilS)
    (seqS (ifS (boolR (op2 geD (varE 4) (varE 1))) (retS (tupE (consA (imm (varE 3)) (consA (imm (varE 3)) nilA)))) nilS)
    (retS (tupE (consA (imm (varE 3)) (consA (imm (varE 4)) nilA)))))))))
noncomputable def m_neighbours : List D → R D := runB 5 b_neighbours
theorem r_neighbours (x0 x1 x2 : D) : m_neighbours [x0, x1, x2] = bodyR (b_neighbours [some x0, some x1, some x2, none, none]) := rfl
theorem c_neighbours {P : Program} {w : World} {K : PySem.W.Frag} {mg : Str → Option Value} {base : Heap} (T : Txt K mg) (F : Def K mg "neighbours" s_neighbours) :
    Cal P w K mg base "neighbours" ["at", "many", "stride"] 1 m_neighbours :=
  cal_mk (k := 0) (own' := []) (N := ["at", "many", "stride", "left", "right"]) (b := b_neighbours) F sc_neighbours (by decide) (fun _ _ _ _ _ _ us hl => match us, hl with | [_, _, _], _ => rfl) fun f cdv A outer s H E hr =>
      (vs_cons (vs_set 3 sc_neighbours.nd rfl (by first | exact Or.inl rfl | exact Or.inr rfl) (vg_op op_sub d_sub nx_sub (ve_var 0 (pv 0)) (ve_var 2 (pv 2))))
      (vs_cons (vs_set 4 sc_neighbours.nd rfl (by first | exact Or.inl rfl | exact Or.inr rfl) (vg_op op_addA d_add nx_add (ve_var 0 (pv 0)) (ve_var 2 (pv 2))))
      (vs_cons (vs_if (own' := [4, 3]) (VW.vt (vw_and (vt_cmp op_lt d_lt nx_lt (ve_var 3 (pv 3)) (VG.ve vg_int) (nomark _)) (vw_and1 (vt_cmp op_ge d_ge nx_ge (ve_var 4 (pv 4)) (ve_var 1 (pv 1)) (nomark _))))) (vs_one (vs_ret vg_non)) vs_nil)
      (vs_cons (vs_if (own' := [4, 3]) (vt_cmp op_lt d_lt nx_lt (ve_var 3 (pv 3)) (VG.ve vg_int) (nomark _)) (vs_one (vs_ret (vg_tup (vb_cons (VE.vg (ve_var 4 (pv 4))) (vb_cons (VE.vg (ve_var 4 (pv 4))) vb_nil)) (len_cons (len_cons len_nil))))) vs_nil)
      (vs_cons (vs_if (own' := [4, 3]) (vt_cmp op_ge d_ge nx_ge (ve_var 4 (pv 4)) (ve_var 1 (pv 1)) (nomark _)) (vs_one (vs_ret (vg_tup (vb_cons (VE.vg (ve_var 3 (pv 3))) (vb_cons (VE.vg (ve_var 3 (pv 3))) vb_nil)) (len_cons (len_cons len_nil))))) vs_nil)
      (vs_one (vs_ret (vg_tup (vb_cons (VE.vg (ve_var 3 (pv 3))) (vb_cons (VE.vg (ve_var 4 (pv 4))) vb_nil)) (len_cons (len_cons len_nil))))))))))
/-! plus -/
abbrev s_plus : Stmt := topS 3
theorem sc_plus : FnScope ["one", "other"] ["one", "other"] (defScope s_plus) := ⟨rfl, rfl, rfl, by decide +kernel, rfl, by decide +kernel, by decide +kernel⟩
noncomputable def b_plus : Vs.Env → Sr := (retS (tupE (consA (op2 addD (op2 ixD (varE 0) (cE (.int 0))) (op2 ixD (varE 1) (cE (.int 0)))) (consA (op2 addD (op2 ixD (varE 0) (cE (.int 1))) (op2 ixD (varE 1) (cE (.int 1)))) nilA))))
noncomputable def m_plus : List D → R D := runB 2 b_plus
theorem r_plus (x0 x1 : D) : m_plus [x0, x1] = bodyR (b_plus [some x0, some x1]) := rfl
theorem c_plus {P : Program} {w : World} {K : PySem.W.Frag} {mg : Str → Option Value} {base : Heap} (T : Txt K mg) (F : Def K mg "plus" s_plus) :
    Cal P w K mg base "plus" ["one", "other"] 1 m_plus :=
  cal_mk (k := 0) (own' := []) (N := ["one", "other"]) (b := b_plus) F sc_plus (by decide) (fun _ _ _ _ _ _ us hl => match us, hl with | [_, _], _ => rfl) fun f cdv A outer s H E hr =>
      (vs_one (vs_ret (vg_tup (vb_cons (vg_op op_addA d_add nx_add (ve_ix (ve_var 0 (pv 0)) (VG.ve vg_int) (fun _ _ => rfl)) (ve_ix (ve_var 1 (pv 1)) (VG.ve vg_int) (fun _ _ => rfl))) (vb_cons (vg_op op_addA d_add nx_add (ve_ix (ve_var 0 (pv 0)) (VG.ve vg_int) (fun _ _ => rfl)) (ve_ix (ve_var 1 (pv 1)) (VG.ve vg_int) (fun _ _ => rfl))) vb_nil)) (len_cons (len_cons len_nil)))))
/-! minus -/
abbrev s_minus : Stmt := topS 4
theorem sc_minus : FnScope ["one", "other"] ["one", "other"] (defScope s_minus) := ⟨rfl, rfl, rfl, by decide +kernel, rfl, by decide +kernel, by decide +kernel⟩
noncomputable def b_minus : Vs.Env → Sr := (retS (tupE (consA (op2 subD (op2 ixD (varE 0) (cE (.int 0))) (op2 ixD (varE 1) (cE (.int 1)))) (consA (op2 subD (op2 ixD (varE 0) (cE (.int 1))) (op2 ixD (varE 1) (cE (.int 0)))) nilA))))
noncomputable def m_minus : List D → R D := runB 2 b_minus
theorem r_minus (x0 x1 : D) : m_minus [x0, x1] = bodyR (b_minus [some x0, some x1]) := rfl
theorem c_minus {P : Program} {w : World} {K : PySem.W.Frag} {mg : Str → Option Value} {base : Heap} (T : Txt K mg) (F : Def K mg "minus" s_minus) :
    Cal P w K mg base "minus" ["one", "other"] 1 m_minus :=
  cal_mk (k := 0) (own' := []) (N := ["one", "other"]) (b := b_minus) F sc_minus (by decide) (fun _ _ _ _ _ _ us hl => match us, hl with | [_, _], _ => rfl) fun f cdv A outer s H E hr =>
      (vs_one (vs_ret (vg_tup (vb_cons (vg_op op_sub d_sub nx_sub (ve_ix (ve_var 0 (pv 0)) (VG.ve vg_int) (fun _ _ => rfl)) (ve_ix (ve_var 1 (pv 1)) (VG.ve vg_int) (fun _ _ => rfl))) (vb_cons (vg_op op_sub d_sub nx_sub (ve_ix (ve_var 0 (pv 0)) (VG.ve vg_int) (fun _ _ => rfl)) (ve_ix (ve_var 1 (pv 1)) (VG.ve vg_int) (fun _ _ => rfl))) vb_nil)) (len_cons (len_cons len_nil)))))
/-! times -/
abbrev s_times : Stmt := topS 5
theorem sc_times : FnScope ["one", "many", "first", "last"] ["one", "many"] (defScope s_times) := ⟨rfl, rfl, rfl, by decide +kernel, rfl, by decide +kernel, by decide +kernel⟩
noncomputable def b_times : Vs.Env → Sr := (seqS (asgS 2 (op2 mulD (op2 ixD (varE 0) (cE (.int 0))) (varE 1)))
    (seqS (asgS 3 (op2 mulD (op2 ixD (varE 0) (cE (.int 1))) (varE 1)))
    (retS (tupE (consA (callB minD (consA (varE 2) (consA (varE 3) nilA))) (consA (callB maxD (consA (varE 2) (consA (varE 3) nilA))) nilA))))))
noncomputable def m_times : List D → R D := runB 4 b_times
theorem r_times (x0 x1 : D) : m_times [x0, x1] = bodyR (b_times [some x0, some x1, none, none]) := rfl
theorem c_times {P : Program} {w : World} {K : PySem.W.Frag} {mg : Str → Option Value} {base : Heap} (T : Txt K mg) (F : Def K mg "times" s_times) :
    Cal P w K mg base "times" ["one", "many"] 1 m_times :=
  cal_mk (k := 0) (own' := []) (N := ["one", "many", "first", "last"]) (b := b_times) F sc_times (by decide) (fun _ _ _ _ _ _ us hl => match us, hl with | [_, _], _ => rfl) fun f cdv A outer s H E hr =>
      (vs_cons (vs_set 2 sc_times.nd rfl (by first | exact Or.inl rfl | exact Or.inr rfl) (vg_op op_mulI d_mul nx_mul (ve_ix (ve_var 0 (pv 0)) (VG.ve vg_int) (fun _ _ => rfl)) (ve_var 1 (pv 1))))
      (vs_cons (vs_set 3 sc_times.nd rfl (by first | exact Or.inl rfl | exact Or.inr rfl) (vg_op op_mulI d_mul nx_mul (ve_ix (ve_var 0 (pv 0)) (VG.ve vg_int) (fun _ _ => rfl)) (ve_var 1 (pv 1))))
      (vs_one (vs_ret (vg_tup (vb_cons (vg_callB (call_minA rfl) cb_min nx_min rfl T.b_min (by decide +kernel) (va_cons (ve_var 2 (pv 2)) (va_cons (ve_var 3 (pv 3)) va_nil))) (vb_cons (vg_callB (call_maxA rfl) cb_max nx_max rfl T.b_max (by decide +kernel) (va_cons (ve_var 2 (pv 2)) (va_cons (ve_var 3 (pv 3)) va_nil))) vb_nil)) (len_cons (len_cons len_nil)))))))
/-! halved -/
abbrev s_halved : Stmt := topS 6
theorem sc_halved : FnScope ["one", "shift"] ["one", "shift"] (defScope s_halved) := ⟨rfl, rfl, rfl, by decide +kernel, rfl, by decide +kernel, by decide +kernel⟩
noncomputable def b_halved : Vs.Env → Sr := (retS (tupE (consA (op2 shrD (op2 ixD (varE 0) (cE (.int 0))) (varE 1)) (consA (op2 shrD (op2 ixD (varE 0) (cE (.int 1))) (varE 1)) nilA))))
noncomputable def m_halved : List D → R D := runB 2 b_halved
theorem r_halved (x0 x1 : D) : m_halved [x0, x1] = bodyR (b_halved [some x0, some x1]) := rfl
theorem c_halved {P : Program} {w : World} {K : PySem.W.Frag} {mg : Str → Option Value} {base : Heap} (T : Txt K mg) (F : Def K mg "halved" s_halved) :
    Cal P w K mg base "halved" ["one", "shift"] 1 m_halved :=
  cal_mk (k := 0) (own' := []) (N := ["one", "shift"]) (b := b_halved) F sc_halved (by decide) (fun _ _ _ _ _ _ us hl => match us, hl with | [_, _], _ => rfl) fun f cdv A outer s H E hr =>
      (vs_one (vs_ret (vg_tup (vb_cons (vg_op op_shr d_shr nx_shr (ve_ix (ve_var 0 (pv 0)) (VG.ve vg_int) (fun _ _ => rfl)) (ve_var 1 (pv 1))) (vb_cons (vg_op op_shr d_shr nx_shr (ve_ix (ve_var 0 (pv 0)) (VG.ve vg_int) (fun _ _ => rfl)) (ve_var 1 (pv 1))) vb_nil)) (len_cons (len_cons len_nil)))))
/-! taken -/
abbrev s_taken : Stmt := topS 8
theorem sc_taken : FnScope ["row", "at", "lift", "stride", "beside", "sides"] ["row", "at", "lift", "stride"] (defScope s_taken) := ⟨rfl, rfl, rfl, by decide +kernel, rfl, by decide +kernel, by decide +kernel⟩
noncomputable def b_taken : Vs.Env → Sr := (seqS (asgS 4 (callF m_neighbours (consA (varE 1) (consA (callB lenD (consA (varE 0) nilA)) (consA (varE 3) nilA)))))
    (seqS (ifS (boolR (op2 isD (varE 4) (cE .non))) (retS (cE .non)) nilS)
    (seqS (asgS 5 (callF m_plus (consA (callF m_times (consA (op2 ixD (varE 0) (op2 ixD (varE 4) (cE (.int 0)))) (consA (op2 ixD (varE 2) (cE (.int 1))) nilA))) (consA (callF m_times (consA (op2 ixD (varE 0) (op2 ixD (varE 4) (cE (.int 1)))) (consA (op2 ixD (varE 2) (cE (.int 2))) nilA))) nilA))))
    (retS (callF m_halved (consA (callF m_plus (consA (varE 5) (consA (tupE (consA (imm (op2 ixD (varE 2) (cE (.int 3)))) (consA (imm (op2 ixD (varE 2) (cE (.int 3)))) nilA))) nilA))) (consA (op2 ixD (varE 2) (cE (.int 4))) nilA)))))))
noncomputable def m_taken : List D → R D := runB 6 b_taken
theorem r_taken (x0 x1 x2 x3 : D) : m_taken [x0, x1, x2, x3] = bodyR (b_taken [some x0, some x1, some x2, some x3, none, none]) := rfl
theorem c_taken {P : Program} {w : World} {K : PySem.W.Frag} {mg : Str → Option Value} {base : Heap} (T : Txt K mg) (F : Def K mg "taken" s_taken) (c_neighbours : Cal P w K mg base "neighbours" ["at", "many", "stride"] 1 m_neighbours) (c_plus : Cal P w K mg base "plus" ["one", "other"] 1 m_plus) (c_times : Cal P w K mg base "times" ["one", "many"] 1 m_times) (c_halved : Cal P w K mg base "halved" ["one", "shift"] 1 m_halved) :
    Cal P w K mg base "taken" ["row", "at", "lift", "stride"] 2 m_taken :=
  cal_mk (k := 1) (own' := []) (N := ["row", "at", "lift", "stride", "beside", "sides"]) (b := b_taken) F sc_taken (by decide) (fun _ _ _ _ _ _ us hl => match us, hl with | [_, _, _, _], _ => rfl) fun f cdv A outer s H E hr =>
      (vs_cons (vs_set 4 sc_taken.nd rfl (by first | exact Or.inl rfl | exact Or.inr rfl) (vg_fn c_neighbours hr (takes_of rfl rfl rfl rfl) rfl (va_cons (ve_var 1 (pv 1)) (va_cons (VG.ve (vg_callB call_len cb_len nx_len rfl T.b_len PySem.boot_len (va_cons (ve_var 0 (pv 0)) va_nil))) (va_cons (ve_var 3 (pv 3)) va_nil))) (len_cons (len_cons (len_cons len_nil)))))
      (vs_cons (vs_if (own' := [4]) (vt_cmp op_isN d_is nx_is (ve_var 4 (pv 4)) (VG.ve vg_non) (nomark _)) (vs_one (vs_ret vg_non)) vs_nil)
      (vs_cons (vs_set 5 sc_taken.nd rfl (by first | exact Or.inl rfl | exact Or.inr rfl) (vg_fn c_plus hr (takes_of rfl rfl rfl rfl) rfl (va_cons (VG.ve (vg_fn c_times hr (takes_of rfl rfl rfl rfl) rfl (va_cons (ve_ix (ve_var 0 (pv 0)) (ve_ix (ve_var 4 (pv 4)) (VG.ve vg_int) (fun _ _ => rfl)) (fun _ _ => rfl)) (va_cons (ve_ix (ve_var 2 (pv 2)) (VG.ve vg_int) (fun _ _ => rfl)) va_nil)) (len_cons (len_cons len_nil)))) (va_cons (VG.ve (vg_fn c_times hr (takes_of rfl rfl rfl rfl) rfl (va_cons (ve_ix (ve_var 0 (pv 0)) (ve_ix (ve_var 4 (pv 4)) (VG.ve vg_int) (fun _ _ => rfl)) (fun _ _ => rfl)) (va_cons (ve_ix (ve_var 2 (pv 2)) (VG.ve vg_int) (fun _ _ => rfl)) va_nil)) (len_cons (len_cons len_nil)))) va_nil)) (len_cons (len_cons len_nil))))
      (vs_one (vs_ret (vg_fn c_halved hr (takes_of rfl rfl rfl rfl) rfl (va_cons (VG.ve (vg_fn c_plus hr (takes_of rfl rfl rfl rfl) rfl (va_cons (ve_var 5 (pv 5)) (va_cons (VG.ve (vg_tup (vb_cons (VE.vg (ve_ix (ve_var 2 (pv 2)) (VG.ve vg_int) (fun _ _ => rfl))) (vb_cons (VE.vg (ve_ix (ve_var 2 (pv 2)) (VG.ve vg_int) (fun _ _ => rfl))) vb_nil)) (len_cons (len_cons len_nil)))) va_nil)) (len_cons (len_cons len_nil)))) (va_cons (ve_ix (ve_var 2 (pv 2)) (VG.ve vg_int) (fun _ _ => rfl)) va_nil)) (len_cons (len_cons len_nil))))))))
/-! lowered_spans -/
abbrev s_lowered_spans : Stmt := topS 9
theorem sc_lowered_spans : FnScope ["row", "ladder", "stride", "found", "many", "lift", "at", "less"] ["row", "ladder", "stride"] (defScope s_lowered_spans) := ⟨rfl, rfl, rfl, by decide +kernel, rfl, by decide +kernel, by decide +kernel⟩
noncomputable def b_lowered_spans : Vs.Env → Sr := (seqS (asgS 3 (callB listD (consA (varE 0) nilA)))
    (seqS (asgS 4 (callB lenD (consA (varE 3) nilA)))
    (seqS (forS (itV revR (varE 1)) (tgN 5) (forS (itR rngS (consA (op2 mulD (op2 ixD (varE 5) (cE (.int 0))) (varE 2)) (consA (varE 4) (consA (op2 mulD (cE (.int 2)) (varE 2)) nilA)))) (tgN 6) (seqS (asgS 7 (callF m_taken (consA (varE 3) (consA (varE 6) (consA (varE 5) (consA (varE 2) nilA))))))
    (ifS (boolR (op2 isNotD (varE 7) (cE .non))) (setS 3 (varE 6) (callF m_minus (consA (op2 ixD (varE 3) (varE 6)) (consA (varE 7) nilA)))) nilS))))
    (retV 3))))
noncomputable def m_lowered_spans : List D → R D := runB 8 b_lowered_spans
theorem r_lowered_spans (x0 x1 x2 : D) : m_lowered_spans [x0, x1, x2] = bodyR (b_lowered_spans [some x0, some x1, some x2, none, none, none, none, none]) := rfl
theorem c_lowered_spans {P : Program} {w : World} {K : PySem.W.Frag} {mg : Str → Option Value} {base : Heap} (T : Txt K mg) (F : Def K mg "lowered_spans" s_lowered_spans) (c_taken : Cal P w K mg base "taken" ["row", "at", "lift", "stride"] 2 m_taken) (c_minus : Cal P w K mg base "minus" ["one", "other"] 1 m_minus) :
    Cal P w K mg base "lowered_spans" ["row", "ladder", "stride"] 3 m_lowered_spans :=
  cal_mk (k := 2) (own' := []) (N := ["row", "ladder", "stride", "found", "many", "lift", "at", "less"]) (b := b_lowered_spans) F sc_lowered_spans (by decide) (fun _ _ _ _ _ _ us hl => match us, hl with | [_, _, _], _ => rfl) fun f cdv A outer s H E hr =>
      (vs_cons (vs_set 3 sc_lowered_spans.nd rfl (by first | exact Or.inl rfl | exact Or.inr rfl) (vg_callTy call_list_of cb_list nx_list rfl T.b_list (by decide +kernel) (va_cons (ve_var 0 (pv 0)) va_nil)))
      (vs_cons (vs_set 4 sc_lowered_spans.nd rfl (by first | exact Or.inl rfl | exact Or.inr rfl) (vg_callB call_len cb_len nx_len rfl T.b_len PySem.boot_len (va_cons (ve_var 3 (pv 3)) va_nil)))
      (vs_cons (vs_for (own := [4, 3]) (passes_of rfl) rfl (vi_rev rfl T.b_reversed (vp_var 1 (pv 1))) ⟨_, (pg_name (i := 5) sc_lowered_spans.nd rfl (by first | exact Or.inl rfl | exact Or.inr rfl)), (tk_name 5)⟩ (vs_one (vs_for (own := [4, 3]) (passes_of rfl) rfl (vi_rng3 rfl T.b_range (va_cons (VG.ve (vg_op op_mulI d_mul nx_mul (ve_ix (ve_var 5 (pv 5)) (VG.ve vg_int) (fun _ _ => rfl)) (ve_var 2 (pv 2)))) (va_cons (ve_var 4 (pv 4)) (va_cons (VG.ve (vg_op op_mulI d_mul nx_mul (VG.ve vg_int) (ve_var 2 (pv 2)))) va_nil)))) ⟨_, (pg_name (i := 6) sc_lowered_spans.nd rfl (by first | exact Or.inl rfl | exact Or.inr rfl)), (tk_name 6)⟩ (VSs.weak (own'' := [4, 3]) (vs_cons (vs_set 7 sc_lowered_spans.nd rfl (by first | exact Or.inl rfl | exact Or.inr rfl) (vg_fn c_taken hr (takes_of rfl rfl rfl rfl) rfl (va_cons (ve_var 3 (pv 3)) (va_cons (ve_var 6 (pv 6)) (va_cons (ve_var 5 (pv 5)) (va_cons (ve_var 2 (pv 2)) va_nil)))) (len_cons (len_cons (len_cons (len_cons len_nil))))))
      (vs_one (vs_if (own' := [7, 4, 3]) (vt_cmp op_notN d_isNot nx_isNot (ve_var 7 (pv 7)) (VG.ve vg_non) (nomark _)) (vs_one (vs_setItem 3 (ps_asg (VG.pe (vg_fn c_minus hr (takes_of rfl rfl rfl rfl) rfl (va_cons (ve_ix (ve_var 3 (pv 3)) (ve_var 6 (pv 6)) (fun _ _ => rfl)) (va_cons (ve_var 7 (pv 7)) va_nil)) (len_cons (len_cons len_nil)))) (pg_sub (pv 3) (VE.pe (ve_var 6 (pv 6))) set_list)))) vs_nil)))))))
      (vs_one (vs_retV 3 (pv 3))))))
/-! broadened -/
abbrev s_broadened : Stmt := topS 10
theorem sc_broadened : FnScope ["row", "at", "lift", "stride", "beside", "total"] ["row", "at", "lift", "stride"] (defScope s_broadened) := ⟨rfl, rfl, rfl, by decide +kernel, rfl, by decide +kernel, by decide +kernel⟩
noncomputable def b_broadened : Vs.Env → Sr := (seqS (asgS 4 (callF m_neighbours (consA (varE 1) (consA (callB lenD (consA (varE 0) nilA)) (consA (varE 3) nilA)))))
    (seqS (ifS (boolR (op2 isD (varE 4) (cE .non))) (retS (cE (.int 0))) nilS)
    (seqS (asgS 5 (op2 addD (op2 mulD (callB absD (consA (op2 ixD (varE 2) (cE (.int 1))) nilA)) (op2 ixD (varE 0) (op2 ixD (varE 4) (cE (.int 0))))) (op2 mulD (callB absD (consA (op2 ixD (varE 2) (cE (.int 2))) nilA)) (op2 ixD (varE 0) (op2 ixD (varE 4) (cE (.int 1)))))))
    (retS (op2 subD (cE (.int 0)) (op2 shrD (op2 subD (cE (.int 0)) (varE 5)) (op2 ixD (varE 2) (cE (.int 4)))))))))
noncomputable def m_broadened : List D → R D := runB 6 b_broadened
theorem r_broadened (x0 x1 x2 x3 : D) : m_broadened [x0, x1, x2, x3] = bodyR (b_broadened [some x0, some x1, some x2, some x3, none, none]) := rfl
theorem c_broadened {P : Program} {w : World} {K : PySem.W.Frag} {mg : Str → Option Value} {base : Heap} (T : Txt K mg) (F : Def K mg "broadened" s_broadened) (c_neighbours : Cal P w K mg base "neighbours" ["at", "many", "stride"] 1 m_neighbours) :
    Cal P w K mg base "broadened" ["row", "at", "lift", "stride"] 2 m_broadened :=
  cal_mk (k := 1) (own' := []) (N := ["row", "at", "lift", "stride", "beside", "total"]) (b := b_broadened) F sc_broadened (by decide) (fun _ _ _ _ _ _ us hl => match us, hl with | [_, _, _, _], _ => rfl) fun f cdv A outer s H E hr =>
      (vs_cons (vs_set 4 sc_broadened.nd rfl (by first | exact Or.inl rfl | exact Or.inr rfl) (vg_fn c_neighbours hr (takes_of rfl rfl rfl rfl) rfl (va_cons (ve_var 1 (pv 1)) (va_cons (VG.ve (vg_callB call_len cb_len nx_len rfl T.b_len PySem.boot_len (va_cons (ve_var 0 (pv 0)) va_nil))) (va_cons (ve_var 3 (pv 3)) va_nil))) (len_cons (len_cons (len_cons len_nil)))))
      (vs_cons (vs_if (own' := [4]) (vt_cmp op_isN d_is nx_is (ve_var 4 (pv 4)) (VG.ve vg_non) (nomark _)) (vs_one (vs_ret vg_int)) vs_nil)
      (vs_cons (vs_set 5 sc_broadened.nd rfl (by first | exact Or.inl rfl | exact Or.inr rfl) (vg_op op_addA d_add nx_add (VG.ve (vg_op op_mulI d_mul nx_mul (VG.ve (vg_callB call_abs cb_abs nx_abs rfl T.b_abs (by decide +kernel) (va_cons (ve_ix (ve_var 2 (pv 2)) (VG.ve vg_int) (fun _ _ => rfl)) va_nil))) (ve_ix (ve_var 0 (pv 0)) (ve_ix (ve_var 4 (pv 4)) (VG.ve vg_int) (fun _ _ => rfl)) (fun _ _ => rfl)))) (VG.ve (vg_op op_mulI d_mul nx_mul (VG.ve (vg_callB call_abs cb_abs nx_abs rfl T.b_abs (by decide +kernel) (va_cons (ve_ix (ve_var 2 (pv 2)) (VG.ve vg_int) (fun _ _ => rfl)) va_nil))) (ve_ix (ve_var 0 (pv 0)) (ve_ix (ve_var 4 (pv 4)) (VG.ve vg_int) (fun _ _ => rfl)) (fun _ _ => rfl))))))
      (vs_one (vs_ret (vg_op op_sub d_sub nx_sub (VG.ve vg_int) (VG.ve (vg_op op_shr d_shr nx_shr (VG.ve (vg_op op_sub d_sub nx_sub (VG.ve vg_int) (ve_var 5 (pv 5)))) (ve_ix (ve_var 2 (pv 2)) (VG.ve vg_int) (fun _ _ => rfl))))))))))
/-! lowered_breadths -/
abbrev s_lowered_breadths : Stmt := topS 11
theorem sc_lowered_breadths : FnScope ["row", "ladder", "stride", "found", "many", "lift", "at"] ["row", "ladder", "stride"] (defScope s_lowered_breadths) := ⟨rfl, rfl, rfl, by decide +kernel, rfl, by decide +kernel, by decide +kernel⟩
noncomputable def b_lowered_breadths : Vs.Env → Sr := (seqS (asgS 3 (callB listD (consA (varE 0) nilA)))
    (seqS (asgS 4 (callB lenD (consA (varE 3) nilA)))
    (seqS (forS (itV revR (varE 1)) (tgN 5) (forS (itR rngS (consA (op2 mulD (op2 ixD (varE 5) (cE (.int 0))) (varE 2)) (consA (varE 4) (consA (op2 mulD (cE (.int 2)) (varE 2)) nilA)))) (tgN 6) (setS 3 (varE 6) (op2 addD (op2 ixD (varE 3) (varE 6)) (callF m_broadened (consA (varE 3) (consA (varE 6) (consA (varE 5) (consA (varE 2) nilA)))))))))
    (retV 3))))
noncomputable def m_lowered_breadths : List D → R D := runB 7 b_lowered_breadths
theorem r_lowered_breadths (x0 x1 x2 : D) : m_lowered_breadths [x0, x1, x2] = bodyR (b_lowered_breadths [some x0, some x1, some x2, none, none, none, none]) := rfl
theorem c_lowered_breadths {P : Program} {w : World} {K : PySem.W.Frag} {mg : Str → Option Value} {base : Heap} (T : Txt K mg) (F : Def K mg "lowered_breadths" s_lowered_breadths) (c_broadened : Cal P w K mg base "broadened" ["row", "at", "lift", "stride"] 2 m_broadened) :
    Cal P w K mg base "lowered_breadths" ["row", "ladder", "stride"] 3 m_lowered_breadths :=
  cal_mk (k := 2) (own' := []) (N := ["row", "ladder", "stride", "found", "many", "lift", "at"]) (b := b_lowered_breadths) F sc_lowered_breadths (by decide) (fun _ _ _ _ _ _ us hl => match us, hl with | [_, _, _], _ => rfl) fun f cdv A outer s H E hr =>
      (vs_cons (vs_set 3 sc_lowered_breadths.nd rfl (by first | exact Or.inl rfl | exact Or.inr rfl) (vg_callTy call_list_of cb_list nx_list rfl T.b_list (by decide +kernel) (va_cons (ve_var 0 (pv 0)) va_nil)))
      (vs_cons (vs_set 4 sc_lowered_breadths.nd rfl (by first | exact Or.inl rfl | exact Or.inr rfl) (vg_callB call_len cb_len nx_len rfl T.b_len PySem.boot_len (va_cons (ve_var 3 (pv 3)) va_nil)))
      (vs_cons (vs_for (own := [4, 3]) (passes_of rfl) rfl (vi_rev rfl T.b_reversed (vp_var 1 (pv 1))) ⟨_, (pg_name (i := 5) sc_lowered_breadths.nd rfl (by first | exact Or.inl rfl | exact Or.inr rfl)), (tk_name 5)⟩ (vs_one (vs_for (own := [4, 3]) (passes_of rfl) rfl (vi_rng3 rfl T.b_range (va_cons (VG.ve (vg_op op_mulI d_mul nx_mul (ve_ix (ve_var 5 (pv 5)) (VG.ve vg_int) (fun _ _ => rfl)) (ve_var 2 (pv 2)))) (va_cons (ve_var 4 (pv 4)) (va_cons (VG.ve (vg_op op_mulI d_mul nx_mul (VG.ve vg_int) (ve_var 2 (pv 2)))) va_nil)))) ⟨_, (pg_name (i := 6) sc_lowered_breadths.nd rfl (by first | exact Or.inl rfl | exact Or.inr rfl)), (tk_name 6)⟩ (vs_one (vs_setItem 3 (ps_asg (VG.pe (vg_op op_addA d_add nx_add (ve_ix (ve_var 3 (pv 3)) (ve_var 6 (pv 6)) (fun _ _ => rfl)) (VG.ve (vg_fn c_broadened hr (takes_of rfl rfl rfl rfl) rfl (va_cons (ve_var 3 (pv 3)) (va_cons (ve_var 6 (pv 6)) (va_cons (ve_var 5 (pv 5)) (va_cons (ve_var 2 (pv 2)) va_nil)))) (len_cons (len_cons (len_cons (len_cons len_nil)))))))) (pg_sub (pv 3) (VE.pe (ve_var 6 (pv 6))) set_list)))))))
      (vs_one (vs_retV 3 (pv 3))))))
/-! _law_cell_at -/
abbrev s_law_cell_at : Stmt := topS 13
theorem sc_law_cell_at : FnScope ["_law_script", "_law_k"] ["_law_script", "_law_k"] (defScope s_law_cell_at) := ⟨rfl, rfl, rfl, by decide +kernel, rfl, by decide +kernel, by decide +kernel⟩
noncomputable def b_law_cell_at : Vs.Env → Sr := (seqS (ifS (boolR (op2 ltD (varE 1) (callB lenD (consA (varE 0) nilA)))) (retS (imm (op2 ixD (varE 0) (varE 1)))) nilS)
    (retS (cE (.int 0))))
noncomputable def m_law_cell_at : List D → R D := runB 2 b_law_cell_at
theorem r_law_cell_at (x0 x1 : D) : m_law_cell_at [x0, x1] = bodyR (b_law_cell_at [some x0, some x1]) := rfl
theorem c_law_cell_at {P : Program} {w : World} {K : PySem.W.Frag} {mg : Str → Option Value} {base : Heap} (T : Txt K mg) (F : Def K mg "_law_cell_at" s_law_cell_at) :
    Cal P w K mg base "_law_cell_at" ["_law_script", "_law_k"] 1 m_law_cell_at :=
  cal_mk (k := 0) (own' := []) (N := ["_law_script", "_law_k"]) (b := b_law_cell_at) F sc_law_cell_at (by decide) (fun _ _ _ _ _ _ us hl => match us, hl with | [_, _], _ => rfl) fun f cdv A outer s H E hr =>
      (vs_cons (vs_if (own' := []) (vt_cmp op_lt d_lt nx_lt (ve_var 1 (pv 1)) (VG.ve (vg_callB call_len cb_len nx_len rfl T.b_len PySem.boot_len (va_cons (ve_var 0 (pv 0)) va_nil))) (nomark _)) (vs_one (vs_ret (VE.vg (ve_ix (ve_var 0 (pv 0)) (ve_var 1 (pv 1)) (fun _ _ => rfl))))) vs_nil)
      (vs_one (vs_ret vg_int)))
/-! _law_whole -/
abbrev s_law_whole : Stmt := topS 14
theorem sc_law_whole : FnScope ["_law_found"] ["_law_found"] (defScope s_law_whole) := ⟨rfl, rfl, rfl, by decide +kernel, rfl, by decide +kernel, by decide +kernel⟩
noncomputable def b_law_whole : Vs.Env → Sr := (retS (andE (isiE "int" (varE 0)) (notE (isiE "bool" (varE 0)))))
noncomputable def m_law_whole : List D → R D := runB 1 b_law_whole
theorem r_law_whole (x0 : D) : m_law_whole [x0] = bodyR (b_law_whole [some x0]) := rfl
theorem c_law_whole {P : Program} {w : World} {K : PySem.W.Frag} {mg : Str → Option Value} {base : Heap} (T : Txt K mg) (F : Def K mg "_law_whole" s_law_whole) :
    Cal P w K mg base "_law_whole" ["_law_found"] 1 m_law_whole :=
  cal_mk (k := 0) (own' := []) (N := ["_law_found"]) (b := b_law_whole) F sc_law_whole (by decide) (fun _ _ _ _ _ _ us hl => match us, hl with | [_], _ => rfl) fun f cdv A outer s H E hr =>
      (vs_one (vs_ret (vg_and (VG.ve (vg_isi k5_int rfl T.b_isinstance (pe_bltn (v := .ty "int") rfl T.b_int (by decide +kernel) rfl) (ve_var 0 (pv 0)))) (vg_one (vg_not (VG.ve (vg_isi k5_bool rfl T.b_isinstance (pe_bltn (v := .ty "bool") rfl T.b_bool (by decide +kernel) rfl) (ve_var 0 (pv 0)))))))))
/-! _law_lift -/
abbrev s_law_lift : Stmt := topS 15
theorem sc_law_lift : FnScope ["_law_cell", "_law_some", "_law_half", "_law_left", "_law_right", "_law_add"] ["_law_cell"] (defScope s_law_lift) := ⟨rfl, rfl, rfl, by decide +kernel, rfl, by decide +kernel, by decide +kernel⟩
noncomputable def b_law_lift : Vs.Env → Sr := (seqS (asgS 1 (op2 modD (op2 mulD (op2 modD (varE 0) (cE (.int 2147483647))) (cE (.int 48271))) (cE (.int 2147483647))))
    (seqS (asgS 2 (op2 modD (varE 1) (cE (.int 2))))
    (seqS (asgS 3 (op2 subD (op2 modD (op2 fdivD (varE 1) (cE (.int 2))) (cE (.int 17))) (cE (.int 8))))
    (seqS (asgS 4 (op2 subD (op2 modD (op2 fdivD (varE 1) (cE (.int 34))) (cE (.int 17))) (cE (.int 8))))
    (seqS (asgS 5 (op2 subD (op2 modD (op2 fdivD (varE 1) (cE (.int 578))) (cE (.int 129))) (cE (.int 64))))
    (retS (tupE (consA (imm (varE 2)) (consA (imm (varE 3)) (consA (imm (varE 4)) (consA (imm (varE 5)) (consA (op2 modD (op2 fdivD (varE 1) (cE (.int 74562))) (cE (.int 9))) nilA))))))))))))
noncomputable def m_law_lift : List D → R D := runB 6 b_law_lift
theorem r_law_lift (x0 : D) : m_law_lift [x0] = bodyR (b_law_lift [some x0, none, none, none, none, none]) := rfl
theorem c_law_lift {P : Program} {w : World} {K : PySem.W.Frag} {mg : Str → Option Value} {base : Heap} (T : Txt K mg) (F : Def K mg "_law_lift" s_law_lift) :
    Cal P w K mg base "_law_lift" ["_law_cell"] 1 m_law_lift :=
  cal_mk (k := 0) (own' := []) (N := ["_law_cell", "_law_some", "_law_half", "_law_left", "_law_right", "_law_add"]) (b := b_law_lift) F sc_law_lift (by decide) (fun _ _ _ _ _ _ us hl => match us, hl with | [_], _ => rfl) fun f cdv A outer s H E hr =>
      (vs_cons (vs_set 1 sc_law_lift.nd rfl (by first | exact Or.inl rfl | exact Or.inr rfl) (vg_op op_mod d_mod nx_mod (VG.ve (vg_op op_mulI d_mul nx_mul (VG.ve (vg_op op_mod d_mod nx_mod (ve_var 0 (pv 0)) (VG.ve vg_int))) (VG.ve vg_int))) (VG.ve vg_int)))
      (vs_cons (vs_set 2 sc_law_lift.nd rfl (by first | exact Or.inl rfl | exact Or.inr rfl) (vg_op op_mod d_mod nx_mod (ve_var 1 (pv 1)) (VG.ve vg_int)))
      (vs_cons (vs_set 3 sc_law_lift.nd rfl (by first | exact Or.inl rfl | exact Or.inr rfl) (vg_op op_sub d_sub nx_sub (VG.ve (vg_op op_mod d_mod nx_mod (VG.ve (vg_op op_fdivW d_fdiv nx_fdiv (ve_var 1 (pv 1)) (VG.ve vg_int))) (VG.ve vg_int))) (VG.ve vg_int)))
      (vs_cons (vs_set 4 sc_law_lift.nd rfl (by first | exact Or.inl rfl | exact Or.inr rfl) (vg_op op_sub d_sub nx_sub (VG.ve (vg_op op_mod d_mod nx_mod (VG.ve (vg_op op_fdivW d_fdiv nx_fdiv (ve_var 1 (pv 1)) (VG.ve vg_int))) (VG.ve vg_int))) (VG.ve vg_int)))
      (vs_cons (vs_set 5 sc_law_lift.nd rfl (by first | exact Or.inl rfl | exact Or.inr rfl) (vg_op op_sub d_sub nx_sub (VG.ve (vg_op op_mod d_mod nx_mod (VG.ve (vg_op op_fdivW d_fdiv nx_fdiv (ve_var 1 (pv 1)) (VG.ve vg_int))) (VG.ve vg_int))) (VG.ve vg_int)))
      (vs_one (vs_ret (vg_tup (vb_cons (VE.vg (ve_var 2 (pv 2))) (vb_cons (VE.vg (ve_var 3 (pv 3))) (vb_cons (VE.vg (ve_var 4 (pv 4))) (vb_cons (VE.vg (ve_var 5 (pv 5))) (vb_cons (vg_op op_mod d_mod nx_mod (VG.ve (vg_op op_fdivW d_fdiv nx_fdiv (ve_var 1 (pv 1)) (VG.ve vg_int))) (VG.ve vg_int)) vb_nil))))) (len_cons (len_cons (len_cons (len_cons (len_cons len_nil)))))))))))))
/-! _law_ladder -/
abbrev s_law_ladder : Stmt := topS 16
theorem sc_law_ladder : FnScope ["_law_script", "_law_start", "_law_most", "_law_cell", "_law_line", "_law_named", "_law_k"] ["_law_script", "_law_start", "_law_most"] (defScope s_law_ladder) := ⟨rfl, rfl, rfl, by decide +kernel, rfl, by decide +kernel, by decide +kernel⟩
noncomputable def b_law_ladder : Vs.Env → Sr := (seqS (asgS 3 (callF m_law_cell_at (consA (varE 0) (consA (varE 1) nilA))))
    (seqS (asgS 4 (tupE (consA (tupE (consA (cE (.int 1)) (consA (negE (cE (.int 1))) (consA (negE (cE (.int 1))) (consA (cE (.int 1)) (consA (cE (.int 1)) nilA)))))) (consA (tupE (consA (cE (.int 0)) (consA (cE (.int 1)) (consA (cE (.int 1)) (consA (cE (.int 2)) (consA (cE (.int 2)) nilA)))))) nilA))))
    (seqS (ifS (boolR (op2 eqD (op2 modD (varE 3) (cE (.int 3))) (cE (.int 0)))) (seqS (asgS 5 (lstE (consA (imm (varE 4)) (consA (tupE (consA (tupE (consA (cE (.int 1)) (consA (negE (cE (.int 1))) (consA (cE (.int 0)) (consA (cE (.int 0)) (consA (cE (.int 0)) nilA)))))) (consA (tupE (consA (cE (.int 0)) (consA (cE (.int 0)) (consA (cE (.int 1)) (consA (cE (.int 0)) (consA (cE (.int 1)) nilA)))))) nilA))) (consA (op2 addD (varE 4) (tupE (consA (tupE (consA (cE (.int 1)) (consA (negE (cE (.int 1))) (consA (negE (cE (.int 1))) (consA (cE (.int 4)) (consA (cE (.int 3)) nilA)))))) nilA))) (consA (tupE nilA) nilA))))))
    (retS (imm (op2 ixD (varE 5) (op2 modD (op2 fdivD (varE 3) (cE (.int 3))) (cE (.int 4))))))) nilS)
    (retS (callB tupleD (consA (lcE [6] (itR rng1 (consA (op2 modD (op2 fdivD (varE 3) (cE (.int 3))) (op2 addD (varE 2) (cE (.int 1)))) nilA)) (tgN 6) yesT (callF m_law_lift (consA (callF m_law_cell_at (consA (varE 0) (consA (op2 addD (op2 addD (varE 1) (cE (.int 1))) (varE 6)) nilA))) nilA))) nilA))))))
noncomputable def m_law_ladder : List D → R D := runB 7 b_law_ladder
theorem r_law_ladder (x0 x1 x2 : D) : m_law_ladder [x0, x1, x2] = bodyR (b_law_ladder [some x0, some x1, some x2, none, none, none, none]) := rfl
theorem c_law_ladder {P : Program} {w : World} {K : PySem.W.Frag} {mg : Str → Option Value} {base : Heap} (T : Txt K mg) (F : Def K mg "_law_ladder" s_law_ladder) (c_law_cell_at : Cal P w K mg base "_law_cell_at" ["_law_script", "_law_k"] 1 m_law_cell_at) (c_law_lift : Cal P w K mg base "_law_lift" ["_law_cell"] 1 m_law_lift) :
    Cal P w K mg base "_law_ladder" ["_law_script", "_law_start", "_law_most"] 2 m_law_ladder :=
  cal_mk (k := 1) (own' := []) (N := ["_law_script", "_law_start", "_law_most", "_law_cell", "_law_line", "_law_named", "_law_k"]) (b := b_law_ladder) F sc_law_ladder (by decide) (fun _ _ _ _ _ _ us hl => match us, hl with | [_, _, _], _ => rfl) fun f cdv A outer s H E hr =>
      (vs_cons (vs_set 3 sc_law_ladder.nd rfl (by first | exact Or.inl rfl | exact Or.inr rfl) (vg_fn c_law_cell_at hr (takes_of rfl rfl rfl rfl) rfl (va_cons (ve_var 0 (pv 0)) (va_cons (ve_var 1 (pv 1)) va_nil)) (len_cons (len_cons len_nil))))
      (vs_cons (vs_set 4 sc_law_ladder.nd rfl (by first | exact Or.inl rfl | exact Or.inr rfl) (vg_tup (vb_cons (vg_tup (vb_cons vg_int (vb_cons (vg_neg (VG.ve vg_int)) (vb_cons (vg_neg (VG.ve vg_int)) (vb_cons vg_int (vb_cons vg_int vb_nil))))) (len_cons (len_cons (len_cons (len_cons (len_cons len_nil)))))) (vb_cons (vg_tup (vb_cons vg_int (vb_cons vg_int (vb_cons vg_int (vb_cons vg_int (vb_cons vg_int vb_nil))))) (len_cons (len_cons (len_cons (len_cons (len_cons len_nil)))))) vb_nil)) (len_cons (len_cons len_nil))))
      (vs_cons (vs_if (own' := [4, 3]) (vt_cmp (op_eqD hr.units) d_eq nx_eq (VG.ve (vg_op op_mod d_mod nx_mod (ve_var 3 (pv 3)) (VG.ve vg_int))) (VG.ve vg_int) (nomark _)) (vs_cons (vs_set 5 sc_law_ladder.nd rfl (by first | exact Or.inl rfl | exact Or.inr rfl) (vg_lst (vb_cons (VE.vg (ve_var 4 (pv 4))) (vb_cons (vg_tup (vb_cons (vg_tup (vb_cons vg_int (vb_cons (vg_neg (VG.ve vg_int)) (vb_cons vg_int (vb_cons vg_int (vb_cons vg_int vb_nil))))) (len_cons (len_cons (len_cons (len_cons (len_cons len_nil)))))) (vb_cons (vg_tup (vb_cons vg_int (vb_cons vg_int (vb_cons vg_int (vb_cons vg_int (vb_cons vg_int vb_nil))))) (len_cons (len_cons (len_cons (len_cons (len_cons len_nil)))))) vb_nil)) (len_cons (len_cons len_nil))) (vb_cons (vg_op op_addA d_add nx_add (ve_var 4 (pv 4)) (VG.ve (vg_tup (vb_cons (vg_tup (vb_cons vg_int (vb_cons (vg_neg (VG.ve vg_int)) (vb_cons (vg_neg (VG.ve vg_int)) (vb_cons vg_int (vb_cons vg_int vb_nil))))) (len_cons (len_cons (len_cons (len_cons (len_cons len_nil)))))) vb_nil) (len_cons len_nil)))) (vb_cons (vg_tup vb_nil len_nil) vb_nil)))) (len_cons (len_cons (len_cons (len_cons len_nil))))))
      (vs_one (vs_ret (VE.vg (ve_ix (ve_var 5 (pv 5)) (VG.ve (vg_op op_mod d_mod nx_mod (VG.ve (vg_op op_fdivW d_fdiv nx_fdiv (ve_var 3 (pv 3)) (VG.ve vg_int))) (VG.ve vg_int))) (fun _ _ => rfl)))))) vs_nil)
      (vs_one (vs_ret (vg_callTy call_tuple_of cb_tuple nx_tuple rfl T.b_tuple (by decide +kernel) (va_cons (VG.ve (vg_lc (own := [("_law_k", 6)]) rfl sc_law_ladder.nd (vi_rng1 rfl T.b_range (va_cons (VG.ve (vg_op op_mod d_mod nx_mod (VG.ve (vg_op op_fdivW d_fdiv nx_fdiv (ve_var 3 (pv 3)) (VG.ve vg_int))) (VG.ve (vg_op op_addA d_add nx_add (ve_var 2 (pv 2)) (VG.ve vg_int))))) va_nil)) (blkOk_by (by kernel_rfl)) (tk_name 6) (fun _ _ _ _ _ => (pg_name (i := 6) sc_law_ladder.nd rfl (by first | exact Or.inl rfl | exact Or.inr rfl))) (fun _ _ _ _ _ => vts_nil) (fun _ _ _ _ _ => (vg_fn c_law_lift hr takes0 rfl (va_cons (VG.ve (vg_fn c_law_cell_at hr takes0 rfl (va_cons (ve_var 0 (pv 0)) (va_cons (VG.ve (vg_op op_addA d_add nx_add (VG.ve (vg_op op_addA d_add nx_add (ve_var 1 (pv 1)) (VG.ve vg_int))) (ve_var 6 (pv 6)))) va_nil)) (len_cons (len_cons len_nil)))) va_nil) (len_cons len_nil))))) va_nil)))))))
/-! _law_stride -/
abbrev s_law_stride : Stmt := topS 17
theorem sc_law_stride : FnScope ["_law_cell", "_law_many", "_law_stride_here", "_law_k"] ["_law_cell"] (defScope s_law_stride) := ⟨rfl, rfl, rfl, by decide +kernel, rfl, by decide +kernel, by decide +kernel⟩
noncomputable def b_law_stride : Vs.Env → Sr := (seqS (asgS 1 (op2 modD (varE 0) (cE (.int 4))))
    (seqS (ifS (boolR (op2 eqD (op2 modD (op2 fdivD (varE 0) (cE (.int 4))) (cE (.int 8))) (cE (.int 5)))) (asgS 1 (op2 modD (op2 fdivD (varE 0) (cE (.int 32))) (cE (.int 7)))) nilS)
    (seqS (asgS 2 (cE (.int 1)))
    (seqS (forS (itR rng1 (consA (varE 1) nilA)) (tgN 3) (asgS 2 (op2 mulD (varE 2) (cE (.int 2)))))
    (retV 2)))))
noncomputable def m_law_stride : List D → R D := runB 4 b_law_stride
theorem r_law_stride (x0 : D) : m_law_stride [x0] = bodyR (b_law_stride [some x0, none, none, none]) := rfl
theorem c_law_stride {P : Program} {w : World} {K : PySem.W.Frag} {mg : Str → Option Value} {base : Heap} (T : Txt K mg) (F : Def K mg "_law_stride" s_law_stride) :
    Cal P w K mg base "_law_stride" ["_law_cell"] 1 m_law_stride :=
  cal_mk (k := 0) (own' := []) (N := ["_law_cell", "_law_many", "_law_stride_here", "_law_k"]) (b := b_law_stride) F sc_law_stride (by decide) (fun _ _ _ _ _ _ us hl => match us, hl with | [_], _ => rfl) fun f cdv A outer s H E hr =>
      (vs_cons (vs_set 1 sc_law_stride.nd rfl (by first | exact Or.inl rfl | exact Or.inr rfl) (vg_op op_mod d_mod nx_mod (ve_var 0 (pv 0)) (VG.ve vg_int)))
      (vs_cons (vs_if (own' := [1, 1]) (vt_cmp (op_eqD hr.units) d_eq nx_eq (VG.ve (vg_op op_mod d_mod nx_mod (VG.ve (vg_op op_fdivW d_fdiv nx_fdiv (ve_var 0 (pv 0)) (VG.ve vg_int))) (VG.ve vg_int))) (VG.ve vg_int) (nomark _)) (vs_one (vs_set 1 sc_law_stride.nd rfl (by first | exact Or.inl rfl | exact Or.inr rfl) (vg_op op_mod d_mod nx_mod (VG.ve (vg_op op_fdivW d_fdiv nx_fdiv (ve_var 0 (pv 0)) (VG.ve vg_int))) (VG.ve vg_int)))) (VSs.weak (own'' := [1, 1]) vs_nil))
      (vs_cons (vs_set 2 sc_law_stride.nd rfl (by first | exact Or.inl rfl | exact Or.inr rfl) vg_int)
      (vs_cons (vs_for (own := [2, 1, 1]) (passes_of rfl) rfl (vi_rng1 rfl T.b_range (va_cons (ve_var 1 (pv 1)) va_nil)) ⟨_, (pg_name (i := 3) sc_law_stride.nd rfl (by first | exact Or.inl rfl | exact Or.inr rfl)), (tk_name 3)⟩ (VSs.weak (own'' := [2, 1, 1]) (vs_one (vs_set 2 sc_law_stride.nd rfl (by first | exact Or.inl rfl | exact Or.inr rfl) (vg_op op_mulI d_mul nx_mul (ve_var 2 (pv 2)) (VG.ve vg_int))))))
      (vs_one (vs_retV 2 (pv 2)))))))
/-! _law_far -/
abbrev s_law_far : Stmt := topS 18
theorem sc_law_far : FnScope ["_law_cell"] ["_law_cell"] (defScope s_law_far) := ⟨rfl, rfl, rfl, by decide +kernel, rfl, by decide +kernel, by decide +kernel⟩
noncomputable def b_law_far : Vs.Env → Sr := (seqS (ifS (boolR (op2 eqD (op2 modD (varE 0) (cE (.int 3))) (cE (.int 0)))) (retS (cE (.int 0))) nilS)
    (seqS (ifS (boolR (op2 eqD (op2 modD (varE 0) (cE (.int 3))) (cE (.int 1)))) (retS (op2 modD (op2 fdivD (varE 0) (cE (.int 3))) (cE (.int 5)))) nilS)
    (retS (op2 modD (op2 fdivD (varE 0) (cE (.int 3))) (op2 powD (cE (.int 10)) (cE (.int 60)))))))
noncomputable def m_law_far : List D → R D := runB 1 b_law_far
theorem r_law_far (x0 : D) : m_law_far [x0] = bodyR (b_law_far [some x0]) := rfl
theorem c_law_far {P : Program} {w : World} {K : PySem.W.Frag} {mg : Str → Option Value} {base : Heap} (T : Txt K mg) (F : Def K mg "_law_far" s_law_far) :
    Cal P w K mg base "_law_far" ["_law_cell"] 1 m_law_far :=
  cal_mk (k := 0) (own' := []) (N := ["_law_cell"]) (b := b_law_far) F sc_law_far (by decide) (fun _ _ _ _ _ _ us hl => match us, hl with | [_], _ => rfl) fun f cdv A outer s H E hr =>
      (vs_cons (vs_if (own' := []) (vt_cmp (op_eqD hr.units) d_eq nx_eq (VG.ve (vg_op op_mod d_mod nx_mod (ve_var 0 (pv 0)) (VG.ve vg_int))) (VG.ve vg_int) (nomark _)) (vs_one (vs_ret vg_int)) vs_nil)
      (vs_cons (vs_if (own' := []) (vt_cmp (op_eqD hr.units) d_eq nx_eq (VG.ve (vg_op op_mod d_mod nx_mod (ve_var 0 (pv 0)) (VG.ve vg_int))) (VG.ve vg_int) (nomark _)) (vs_one (vs_ret (vg_op op_mod d_mod nx_mod (VG.ve (vg_op op_fdivW d_fdiv nx_fdiv (ve_var 0 (pv 0)) (VG.ve vg_int))) (VG.ve vg_int)))) vs_nil)
      (vs_one (vs_ret (vg_op op_mod d_mod nx_mod (VG.ve (vg_op op_fdivW d_fdiv nx_fdiv (ve_var 0 (pv 0)) (VG.ve vg_int))) (VG.ve (vg_op op_powV d_pow nx_pow (VG.ve vg_int) (VG.ve vg_int))))))))
/-! _law_spans -/
abbrev s_law_spans : Stmt := topS 19
theorem sc_law_spans : FnScope ["_law_script", "_law_start", "_law_cell", "_law_row", "_law_number", "_law_k", "_law_low"] ["_law_script", "_law_start", "_law_cell"] (defScope s_law_spans) := ⟨rfl, rfl, rfl, by decide +kernel, rfl, by decide +kernel, by decide +kernel⟩
noncomputable def b_law_spans : Vs.Env → Sr := (seqS (asgS 3 (lstE nilA))
    (seqS (asgS 4 (op2 modD (op2 fdivD (varE 2) (cE (.int 5))) (cE (.int 2147483647))))
    (seqS (forS (itR rngS (consA (varE 1) (consA (cE (.int 62)) (consA (cE (.int 2)) nilA)))) (tgN 5) (seqS (asgS 4 (op2 modD (op2 addD (op2 addD (op2 mulD (varE 4) (varE 4)) (op2 mulD (cE (.int 69621)) (varE 4))) (varE 5)) (cE (.int 2147483647))))
    (ifS (boolR (op2 ltD (varE 5) (callB lenD (consA (varE 0) nilA)))) (seqS (asgS 6 (op2 subD (op2 modD (op2 ixD (varE 0) (varE 5)) (op2 addD (op2 mulD (cE (.int 2)) (op2 powD (cE (.int 10)) (cE (.int 60)))) (cE (.int 1)))) (op2 powD (cE (.int 10)) (cE (.int 60)))))
    (appS 3 (tupE (consA (imm (varE 6)) (consA (op2 addD (varE 6) (callF m_law_far (consA (callF m_law_cell_at (consA (varE 0) (consA (op2 addD (varE 5) (cE (.int 1))) nilA))) nilA))) nilA))))) (ifS (boolR (op2 ltD (varE 5) (op2 addD (op2 addD (varE 1) (cE (.int 2))) (op2 mulD (cE (.int 2)) (op2 modD (varE 2) (cE (.int 5))))))) (seqS (asgS 6 (op2 subD (op2 modD (varE 4) (cE (.int 401))) (cE (.int 200))))
    (appS 3 (tupE (consA (imm (varE 6)) (consA (op2 addD (varE 6) (callF m_law_far (consA (op2 fdivD (varE 4) (cE (.int 401))) nilA))) nilA))))) nilS))))
    (retV 3))))
noncomputable def m_law_spans : List D → R D := runB 7 b_law_spans
theorem r_law_spans (x0 x1 x2 : D) : m_law_spans [x0, x1, x2] = bodyR (b_law_spans [some x0, some x1, some x2, none, none, none, none]) := rfl
theorem c_law_spans {P : Program} {w : World} {K : PySem.W.Frag} {mg : Str → Option Value} {base : Heap} (T : Txt K mg) (F : Def K mg "_law_spans" s_law_spans) (c_law_far : Cal P w K mg base "_law_far" ["_law_cell"] 1 m_law_far) (c_law_cell_at : Cal P w K mg base "_law_cell_at" ["_law_script", "_law_k"] 1 m_law_cell_at) :
    Cal P w K mg base "_law_spans" ["_law_script", "_law_start", "_law_cell"] 2 m_law_spans :=
  cal_mk (k := 1) (own' := []) (N := ["_law_script", "_law_start", "_law_cell", "_law_row", "_law_number", "_law_k", "_law_low"]) (b := b_law_spans) F sc_law_spans (by decide) (fun _ _ _ _ _ _ us hl => match us, hl with | [_, _, _], _ => rfl) fun f cdv A outer s H E hr =>
      (vs_cons (vs_set 3 sc_law_spans.nd rfl (by first | exact Or.inl rfl | exact Or.inr rfl) (vg_lst vb_nil len_nil))
      (vs_cons (vs_set 4 sc_law_spans.nd rfl (by first | exact Or.inl rfl | exact Or.inr rfl) (vg_op op_mod d_mod nx_mod (VG.ve (vg_op op_fdivW d_fdiv nx_fdiv (ve_var 2 (pv 2)) (VG.ve vg_int))) (VG.ve vg_int)))
      (vs_cons (vs_for (own := [4, 3]) (passes_of rfl) rfl (vi_rng3 rfl T.b_range (va_cons (ve_var 1 (pv 1)) (va_cons (VG.ve vg_int) (va_cons (VG.ve vg_int) va_nil)))) ⟨_, (pg_name (i := 5) sc_law_spans.nd rfl (by first | exact Or.inl rfl | exact Or.inr rfl)), (tk_name 5)⟩ (VSs.weak (own'' := [4, 3]) (vs_cons (vs_set 4 sc_law_spans.nd rfl (by first | exact Or.inl rfl | exact Or.inr rfl) (vg_op op_mod d_mod nx_mod (VG.ve (vg_op op_addA d_add nx_add (VG.ve (vg_op op_addA d_add nx_add (VG.ve (vg_op op_mulI d_mul nx_mul (ve_var 4 (pv 4)) (ve_var 4 (pv 4)))) (VG.ve (vg_op op_mulI d_mul nx_mul (VG.ve vg_int) (ve_var 4 (pv 4)))))) (ve_var 5 (pv 5)))) (VG.ve vg_int)))
      (vs_one (vs_if (own' := [4, 4, 3]) (vt_cmp op_lt d_lt nx_lt (ve_var 5 (pv 5)) (VG.ve (vg_callB call_len cb_len nx_len rfl T.b_len PySem.boot_len (va_cons (ve_var 0 (pv 0)) va_nil))) (nomark _)) (VSs.weak (own'' := [4, 4, 3]) (vs_cons (vs_set 6 sc_law_spans.nd rfl (by first | exact Or.inl rfl | exact Or.inr rfl) (vg_op op_sub d_sub nx_sub (VG.ve (vg_op op_mod d_mod nx_mod (ve_ix (ve_var 0 (pv 0)) (ve_var 5 (pv 5)) (fun _ _ => rfl)) (VG.ve (vg_op op_addA d_add nx_add (VG.ve (vg_op op_mulI d_mul nx_mul (VG.ve vg_int) (VG.ve (vg_op op_powV d_pow nx_pow (VG.ve vg_int) (VG.ve vg_int))))) (VG.ve vg_int))))) (VG.ve (vg_op op_powV d_pow nx_pow (VG.ve vg_int) (VG.ve vg_int)))))
      (vs_one (vs_append 3 (ps_expr (pe_bm PySem.F.plainAttrs_list PySem.F.slot_list_append PySem.F.type_list_append mt_append (pv 3) (pa_cons (VG.pe (vg_tup (vb_cons (VE.vg (ve_var 6 (pv 6))) (vb_cons (vg_op op_addA d_add nx_add (ve_var 6 (pv 6)) (VG.ve (vg_fn c_law_far hr (takes_of rfl rfl rfl rfl) rfl (va_cons (VG.ve (vg_fn c_law_cell_at hr (takes_of rfl rfl rfl rfl) rfl (va_cons (ve_var 0 (pv 0)) (va_cons (VG.ve (vg_op op_addA d_add nx_add (ve_var 5 (pv 5)) (VG.ve vg_int))) va_nil)) (len_cons (len_cons len_nil)))) va_nil) (len_cons len_nil)))) vb_nil)) (len_cons (len_cons len_nil)))) pa_nil))))))) (vs_one (vs_if (own' := [4, 4, 3]) (vt_cmp op_lt d_lt nx_lt (ve_var 5 (pv 5)) (VG.ve (vg_op op_addA d_add nx_add (VG.ve (vg_op op_addA d_add nx_add (ve_var 1 (pv 1)) (VG.ve vg_int))) (VG.ve (vg_op op_mulI d_mul nx_mul (VG.ve vg_int) (VG.ve (vg_op op_mod d_mod nx_mod (ve_var 2 (pv 2)) (VG.ve vg_int))))))) (nomark _)) (VSs.weak (own'' := [4, 4, 3]) (vs_cons (vs_set 6 sc_law_spans.nd rfl (by first | exact Or.inl rfl | exact Or.inr rfl) (vg_op op_sub d_sub nx_sub (VG.ve (vg_op op_mod d_mod nx_mod (ve_var 4 (pv 4)) (VG.ve vg_int))) (VG.ve vg_int)))
      (vs_one (vs_append 3 (ps_expr (pe_bm PySem.F.plainAttrs_list PySem.F.slot_list_append PySem.F.type_list_append mt_append (pv 3) (pa_cons (VG.pe (vg_tup (vb_cons (VE.vg (ve_var 6 (pv 6))) (vb_cons (vg_op op_addA d_add nx_add (ve_var 6 (pv 6)) (VG.ve (vg_fn c_law_far hr (takes_of rfl rfl rfl rfl) rfl (va_cons (VG.ve (vg_op op_fdivW d_fdiv nx_fdiv (ve_var 4 (pv 4)) (VG.ve vg_int))) va_nil) (len_cons len_nil)))) vb_nil)) (len_cons (len_cons len_nil)))) pa_nil))))))) vs_nil)))))))
      (vs_one (vs_retV 3 (pv 3))))))
/-! _law_thinner -/
abbrev s_law_thinner : Stmt := topS 20
theorem sc_law_thinner : FnScope ["_law_row", "_law_cell", "_law_found", "_law_number", "_law_low", "_law_high", "_law_less"] ["_law_row", "_law_cell"] (defScope s_law_thinner) := ⟨rfl, rfl, rfl, by decide +kernel, rfl, by decide +kernel, by decide +kernel⟩
noncomputable def b_law_thinner : Vs.Env → Sr := (seqS (asgS 2 (lstE nilA))
    (seqS (asgS 3 (op2 modD (varE 1) (cE (.int 2147483647))))
    (seqS (forS (itV itemsR (varE 0)) (tgT 4 5) (seqS (asgS 3 (op2 modD (op2 addD (op2 addD (op2 mulD (varE 3) (varE 3)) (op2 mulD (cE (.int 40014)) (varE 3))) (callB lenD (consA (varE 2) nilA))) (cE (.int 2147483647))))
    (seqS (asgS 6 (imm (op2 ixD (lstE (consA (cE (.int 0)) (consA (op2 modD (op2 fdivD (varE 3) (cE (.int 3))) (op2 addD (op2 subD (varE 5) (varE 4)) (cE (.int 1)))) (consA (op2 subD (varE 5) (varE 4)) nilA)))) (op2 modD (varE 3) (cE (.int 3))))))
    (appS 2 (tupE (consA (imm (varE 4)) (consA (op2 subD (varE 5) (varE 6)) nilA)))))))
    (retV 2))))
noncomputable def m_law_thinner : List D → R D := runB 7 b_law_thinner
theorem r_law_thinner (x0 x1 : D) : m_law_thinner [x0, x1] = bodyR (b_law_thinner [some x0, some x1, none, none, none, none, none]) := rfl
theorem c_law_thinner {P : Program} {w : World} {K : PySem.W.Frag} {mg : Str → Option Value} {base : Heap} (T : Txt K mg) (F : Def K mg "_law_thinner" s_law_thinner) :
    Cal P w K mg base "_law_thinner" ["_law_row", "_law_cell"] 1 m_law_thinner :=
  cal_mk (k := 0) (own' := []) (N := ["_law_row", "_law_cell", "_law_found", "_law_number", "_law_low", "_law_high", "_law_less"]) (b := b_law_thinner) F sc_law_thinner (by decide) (fun _ _ _ _ _ _ us hl => match us, hl with | [_, _], _ => rfl) fun f cdv A outer s H E hr =>
      (vs_cons (vs_set 2 sc_law_thinner.nd rfl (by first | exact Or.inl rfl | exact Or.inr rfl) (vg_lst vb_nil len_nil))
      (vs_cons (vs_set 3 sc_law_thinner.nd rfl (by first | exact Or.inl rfl | exact Or.inr rfl) (vg_op op_mod d_mod nx_mod (ve_var 1 (pv 1)) (VG.ve vg_int)))
      (vs_cons (vs_for (own := [3, 2]) (passes_of rfl) rfl (vi_seq (vp_var 0 (pv 0))) ⟨_, (pg_tup rfl (pgs_cons (pg_name (i := 4) sc_law_thinner.nd rfl (by first | exact Or.inl rfl | exact Or.inr rfl)) (pgs_cons (pg_name (i := 5) sc_law_thinner.nd rfl (by first | exact Or.inl rfl | exact Or.inr rfl)) pgs_nil))), (tk_tup 4 5)⟩ (VSs.weak (own'' := [3, 2]) (vs_cons (vs_set 3 sc_law_thinner.nd rfl (by first | exact Or.inl rfl | exact Or.inr rfl) (vg_op op_mod d_mod nx_mod (VG.ve (vg_op op_addA d_add nx_add (VG.ve (vg_op op_addA d_add nx_add (VG.ve (vg_op op_mulI d_mul nx_mul (ve_var 3 (pv 3)) (ve_var 3 (pv 3)))) (VG.ve (vg_op op_mulI d_mul nx_mul (VG.ve vg_int) (ve_var 3 (pv 3)))))) (VG.ve (vg_callB call_len cb_len nx_len rfl T.b_len PySem.boot_len (va_cons (ve_var 2 (pv 2)) va_nil))))) (VG.ve vg_int)))
      (vs_cons (vs_set 6 sc_law_thinner.nd rfl (by first | exact Or.inl rfl | exact Or.inr rfl) (VE.vg (ve_ix (VG.ve (vg_lst (vb_cons vg_int (vb_cons (vg_op op_mod d_mod nx_mod (VG.ve (vg_op op_fdivW d_fdiv nx_fdiv (ve_var 3 (pv 3)) (VG.ve vg_int))) (VG.ve (vg_op op_addA d_add nx_add (VG.ve (vg_op op_sub d_sub nx_sub (ve_var 5 (pv 5)) (ve_var 4 (pv 4)))) (VG.ve vg_int)))) (vb_cons (vg_op op_sub d_sub nx_sub (ve_var 5 (pv 5)) (ve_var 4 (pv 4))) vb_nil))) (len_cons (len_cons (len_cons len_nil))))) (VG.ve (vg_op op_mod d_mod nx_mod (ve_var 3 (pv 3)) (VG.ve vg_int))) (fun _ _ => rfl))))
      (vs_one (vs_append 2 (ps_expr (pe_bm PySem.F.plainAttrs_list PySem.F.slot_list_append PySem.F.type_list_append mt_append (pv 2) (pa_cons (VG.pe (vg_tup (vb_cons (VE.vg (ve_var 4 (pv 4))) (vb_cons (vg_op op_sub d_sub nx_sub (ve_var 5 (pv 5)) (ve_var 6 (pv 6))) vb_nil)) (len_cons (len_cons len_nil)))) pa_nil)))))))))
      (vs_one (vs_retV 2 (pv 2))))))
/-! _law_undone -/
abbrev s_law_undone : Stmt := topS 21
theorem sc_law_undone : FnScope ["_law_row", "_law_lift_here", "_law_stride_here", "_law_due", "_law_parts", "_law_power", "_law_k", "_law_left", "_law_right", "_law_more", "_law_at"] ["_law_row", "_law_lift_here", "_law_stride_here"] (defScope s_law_undone) := ⟨rfl, rfl, rfl, by decide +kernel, rfl, by decide +kernel, by decide +kernel⟩
noncomputable def b_law_undone : Vs.Env → Sr := (seqS (asgS 3 (callB listD (consA (varE 0) nilA)))
    (seqS (asgS 4 (lcE [10] (itR rngS (consA (cE (.int 0)) (consA (callB lenD (consA (varE 0) nilA)) (consA (varE 2) nilA)))) (tgN 10) yesT (imm (op2 ixD (varE 0) (varE 10)))))
    (seqS (asgS 5 (cE (.int 1)))
    (seqS (forS (itR rng1 (consA (op2 ixD (varE 1) (cE (.int 4))) nilA)) (tgN 6) (asgS 5 (op2 mulD (varE 5) (cE (.int 2)))))
    (seqS (forS (itR rngS (consA (op2 ixD (varE 1) (cE (.int 0))) (consA (callB lenD (consA (varE 4) nilA)) (consA (cE (.int 2)) nilA)))) (tgN 6) (ifS (boolR (op2 gtD (callB lenD (consA (varE 4) nilA)) (cE (.int 1)))) (seqS (asgS 7 (imm (op2 ixD (varE 4) (callB maxD (consA (op2 subD (varE 6) (cE (.int 1))) (consA (op2 subD (cE (.int 1)) (varE 6)) nilA))))))
    (seqS (asgS 8 (imm (varE 7)))
    (seqS (ifS (boolR (op2 ltD (op2 addD (varE 6) (cE (.int 1))) (callB lenD (consA (varE 4) nilA)))) (asgS 8 (imm (op2 ixD (varE 4) (op2 addD (varE 6) (cE (.int 1)))))) nilS)
    (seqS (asgS 9 (op2 addD (op2 mulD (callB absD (consA (op2 ixD (varE 1) (cE (.int 1))) nilA)) (varE 7)) (op2 mulD (callB absD (consA (op2 ixD (varE 1) (cE (.int 2))) nilA)) (varE 8))))
    (setS 3 (op2 mulD (varE 6) (varE 2)) (op2 addD (op2 ixD (varE 4) (varE 6)) (op2 fdivD (op2 subD (op2 addD (varE 9) (varE 5)) (cE (.int 1))) (varE 5)))))))) nilS))
    (retV 3))))))
noncomputable def m_law_undone : List D → R D := runB 11 b_law_undone
theorem r_law_undone (x0 x1 x2 : D) : m_law_undone [x0, x1, x2] = bodyR (b_law_undone [some x0, some x1, some x2, none, none, none, none, none, none, none, none]) := rfl
theorem c_law_undone {P : Program} {w : World} {K : PySem.W.Frag} {mg : Str → Option Value} {base : Heap} (T : Txt K mg) (F : Def K mg "_law_undone" s_law_undone) :
    Cal P w K mg base "_law_undone" ["_law_row", "_law_lift_here", "_law_stride_here"] 1 m_law_undone :=
  cal_mk (k := 0) (own' := []) (N := ["_law_row", "_law_lift_here", "_law_stride_here", "_law_due", "_law_parts", "_law_power", "_law_k", "_law_left", "_law_right", "_law_more", "_law_at"]) (b := b_law_undone) F sc_law_undone (by decide) (fun _ _ _ _ _ _ us hl => match us, hl with | [_, _, _], _ => rfl) fun f cdv A outer s H E hr =>
      (vs_cons (vs_set 3 sc_law_undone.nd rfl (by first | exact Or.inl rfl | exact Or.inr rfl) (vg_callTy call_list_of cb_list nx_list rfl T.b_list (by decide +kernel) (va_cons (ve_var 0 (pv 0)) va_nil)))
      (vs_cons (vs_setLc 4 (hsw := (sw_true rfl rfl rfl (by decide +kernel))) (hy := rfl) (hyl := rfl) (hc := rfl) (hN := sc_law_undone.nd) (own := [("_law_at", 10)]) (vi_rng3 rfl T.b_range (va_cons (VG.ve vg_int) (va_cons (VG.ve (vg_callB call_len cb_len nx_len rfl T.b_len PySem.boot_len (va_cons (ve_var 0 (pv 0)) va_nil))) (va_cons (ve_var 2 (pv 2)) va_nil)))) (blkOk_by (by kernel_rfl)) (tk_name 10) (fun _ _ _ _ _ => (pg_name (i := 10) sc_law_undone.nd rfl (by first | exact Or.inl rfl | exact Or.inr rfl))) (fun _ _ _ _ _ => vts_nil) (fun _ _ _ _ _ => (VE.vg (ve_ix (ve_var 0 (pv 0)) (ve_var 10 (pv 10)) (fun _ _ => rfl)))))
      (vs_cons (vs_set 5 sc_law_undone.nd rfl (by first | exact Or.inl rfl | exact Or.inr rfl) vg_int)
      (vs_cons (vs_for (own := [5, 4, 3]) (passes_of rfl) rfl (vi_rng1 rfl T.b_range (va_cons (ve_ix (ve_var 1 (pv 1)) (VG.ve vg_int) (fun _ _ => rfl)) va_nil)) ⟨_, (pg_name (i := 6) sc_law_undone.nd rfl (by first | exact Or.inl rfl | exact Or.inr rfl)), (tk_name 6)⟩ (VSs.weak (own'' := [5, 4, 3]) (vs_one (vs_set 5 sc_law_undone.nd rfl (by first | exact Or.inl rfl | exact Or.inr rfl) (vg_op op_mulI d_mul nx_mul (ve_var 5 (pv 5)) (VG.ve vg_int))))))
      (vs_cons (vs_for (own := [5, 4, 3]) (passes_of rfl) rfl (vi_rng3 rfl T.b_range (va_cons (ve_ix (ve_var 1 (pv 1)) (VG.ve vg_int) (fun _ _ => rfl)) (va_cons (VG.ve (vg_callB call_len cb_len nx_len rfl T.b_len PySem.boot_len (va_cons (ve_var 4 (pv 4)) va_nil))) (va_cons (VG.ve vg_int) va_nil)))) ⟨_, (pg_name (i := 6) sc_law_undone.nd rfl (by first | exact Or.inl rfl | exact Or.inr rfl)), (tk_name 6)⟩ (vs_one (vs_if (own' := [5, 4, 3]) (vt_cmp op_gt d_gt nx_gt (VG.ve (vg_callB call_len cb_len nx_len rfl T.b_len PySem.boot_len (va_cons (ve_var 4 (pv 4)) va_nil))) (VG.ve vg_int) (nomark _)) (VSs.weak (own'' := [5, 4, 3]) (vs_cons (vs_set 7 sc_law_undone.nd rfl (by first | exact Or.inl rfl | exact Or.inr rfl) (VE.vg (ve_ix (ve_var 4 (pv 4)) (VG.ve (vg_callB (call_maxA rfl) cb_max nx_max rfl T.b_max (by decide +kernel) (va_cons (VG.ve (vg_op op_sub d_sub nx_sub (ve_var 6 (pv 6)) (VG.ve vg_int))) (va_cons (VG.ve (vg_op op_sub d_sub nx_sub (VG.ve vg_int) (ve_var 6 (pv 6)))) va_nil)))) (fun _ _ => rfl))))
      (vs_cons (vs_set 8 sc_law_undone.nd rfl (by first | exact Or.inl rfl | exact Or.inr rfl) (VE.vg (ve_var 7 (pv 7))))
      (vs_cons (vs_if (own' := [8, 8, 7, 5, 4, 3]) (vt_cmp op_lt d_lt nx_lt (VG.ve (vg_op op_addA d_add nx_add (ve_var 6 (pv 6)) (VG.ve vg_int))) (VG.ve (vg_callB call_len cb_len nx_len rfl T.b_len PySem.boot_len (va_cons (ve_var 4 (pv 4)) va_nil))) (nomark _)) (vs_one (vs_set 8 sc_law_undone.nd rfl (by first | exact Or.inl rfl | exact Or.inr rfl) (VE.vg (ve_ix (ve_var 4 (pv 4)) (VG.ve (vg_op op_addA d_add nx_add (ve_var 6 (pv 6)) (VG.ve vg_int))) (fun _ _ => rfl))))) (VSs.weak (own'' := [8, 8, 7, 5, 4, 3]) vs_nil))
      (vs_cons (vs_set 9 sc_law_undone.nd rfl (by first | exact Or.inl rfl | exact Or.inr rfl) (vg_op op_addA d_add nx_add (VG.ve (vg_op op_mulI d_mul nx_mul (VG.ve (vg_callB call_abs cb_abs nx_abs rfl T.b_abs (by decide +kernel) (va_cons (ve_ix (ve_var 1 (pv 1)) (VG.ve vg_int) (fun _ _ => rfl)) va_nil))) (ve_var 7 (pv 7)))) (VG.ve (vg_op op_mulI d_mul nx_mul (VG.ve (vg_callB call_abs cb_abs nx_abs rfl T.b_abs (by decide +kernel) (va_cons (ve_ix (ve_var 1 (pv 1)) (VG.ve vg_int) (fun _ _ => rfl)) va_nil))) (ve_var 8 (pv 8))))))
      (vs_one (vs_setItem 3 (ps_asg (VG.pe (vg_op op_addA d_add nx_add (ve_ix (ve_var 4 (pv 4)) (ve_var 6 (pv 6)) (fun _ _ => rfl)) (VG.ve (vg_op op_fdivW d_fdiv nx_fdiv (VG.ve (vg_op op_sub d_sub nx_sub (VG.ve (vg_op op_addA d_add nx_add (ve_var 9 (pv 9)) (ve_var 5 (pv 5)))) (VG.ve vg_int))) (ve_var 5 (pv 5)))))) (pg_sub (pv 3) (VE.pe (VG.ve (vg_op op_mulI d_mul nx_mul (ve_var 6 (pv 6)) (ve_var 2 (pv 2))))) set_list))))))))) vs_nil)))
      (vs_one (vs_retV 3 (pv 3))))))))
/-! _law_same -/
abbrev s_law_same : Stmt := topS 22
theorem sc_law_same : FnScope ["_law_found", "_law_due", "_law_k"] ["_law_found", "_law_due"] (defScope s_law_same) := ⟨rfl, rfl, rfl, by decide +kernel, rfl, by decide +kernel, by decide +kernel⟩
noncomputable def b_law_same : Vs.Env → Sr := (seqS (ifS (orT (notT (boolR (isiE "list" (varE 0)))) (boolR (op2 neD (callB lenD (consA (varE 0) nilA)) (callB lenD (consA (varE 1) nilA))))) (retS (cE (.bl false))) nilS)
    (seqS (forS (itR rng1 (consA (callB lenD (consA (varE 1) nilA)) nilA)) (tgN 2) (ifS (orT (notT (boolR (callF m_law_whole (consA (op2 ixD (varE 0) (varE 2)) nilA)))) (boolR (op2 neD (op2 ixD (varE 0) (varE 2)) (op2 ixD (varE 1) (varE 2))))) (retS (cE (.bl false))) nilS))
    (retS (cE (.bl true)))))
noncomputable def m_law_same : List D → R D := runB 3 b_law_same
theorem r_law_same (x0 x1 : D) : m_law_same [x0, x1] = bodyR (b_law_same [some x0, some x1, none]) := rfl
theorem c_law_same {P : Program} {w : World} {K : PySem.W.Frag} {mg : Str → Option Value} {base : Heap} (T : Txt K mg) (F : Def K mg "_law_same" s_law_same) (c_law_whole : Cal P w K mg base "_law_whole" ["_law_found"] 1 m_law_whole) :
    Cal P w K mg base "_law_same" ["_law_found", "_law_due"] 2 m_law_same :=
  cal_mk (k := 1) (own' := []) (N := ["_law_found", "_law_due", "_law_k"]) (b := b_law_same) F sc_law_same (by decide) (fun _ _ _ _ _ _ us hl => match us, hl with | [_, _], _ => rfl) fun f cdv A outer s H E hr =>
      (vs_cons (vs_if (own' := []) (VW.vt (vw_or (vt_not (vt_val (VG.ve (vg_isi k5_list rfl T.b_isinstance (pe_bltn (v := .ty "list") rfl T.b_list (by decide +kernel) rfl) (ve_var 0 (pv 0)))))) (vw_or1 (vt_cmp (op_neD hr.units) d_ne nx_ne (VG.ve (vg_callB call_len cb_len nx_len rfl T.b_len PySem.boot_len (va_cons (ve_var 0 (pv 0)) va_nil))) (VG.ve (vg_callB call_len cb_len nx_len rfl T.b_len PySem.boot_len (va_cons (ve_var 1 (pv 1)) va_nil))) (nomark _))))) (vs_one (vs_ret vg_bl)) vs_nil)
      (vs_cons (vs_for (own := []) (passes_of rfl) rfl (vi_rng1 rfl T.b_range (va_cons (VG.ve (vg_callB call_len cb_len nx_len rfl T.b_len PySem.boot_len (va_cons (ve_var 1 (pv 1)) va_nil))) va_nil)) ⟨_, (pg_name (i := 2) sc_law_same.nd rfl (by first | exact Or.inl rfl | exact Or.inr rfl)), (tk_name 2)⟩ (vs_one (vs_if (own' := []) (VW.vt (vw_or (vt_not (vt_val (VG.ve (vg_fn c_law_whole hr (takes_of rfl rfl rfl rfl) rfl (va_cons (ve_ix (ve_var 0 (pv 0)) (ve_var 2 (pv 2)) (fun _ _ => rfl)) va_nil) (len_cons len_nil))))) (vw_or1 (vt_cmp (op_neD hr.units) d_ne nx_ne (ve_ix (ve_var 0 (pv 0)) (ve_var 2 (pv 2)) (fun _ _ => rfl)) (ve_ix (ve_var 1 (pv 1)) (ve_var 2 (pv 2)) (fun _ _ => rfl)) (nomark _))))) (vs_one (vs_ret vg_bl)) vs_nil)))
      (vs_one (vs_ret vg_bl))))
/-! law -/
abbrev s_law : Stmt := topS 23
theorem sc_law : FnScope ["_law_script", "_law_ladder_here", "_law_cell", "_law_stride_here", "_law_spans_here", "_law_row", "_law_due", "_law_k", "_law_handed", "_law_found", "_law_narrow", "_law_low", "_law_high"] ["_law_script"] (defScope s_law) := ⟨rfl, rfl, rfl, by decide +kernel, rfl, by decide +kernel, by decide +kernel⟩
noncomputable def b_law : Vs.Env → Sr := (seqS (asgS 1 (callF m_law_ladder (consA (varE 0) (consA (cE (.int 0)) (consA (cE (.int 6)) nilA)))))
    (seqS (asgS 2 (callF m_law_cell_at (consA (varE 0) (consA (cE (.int 7)) nilA))))
    (seqS (asgS 3 (callF m_law_stride (consA (varE 2) nilA)))
    (seqS (asgS 4 (callF m_law_spans (consA (varE 0) (consA (cE (.int 8)) (consA (op2 fdivD (varE 2) (cE (.int 224))) nilA)))))
    (seqS (asgS 5 (lcE [11, 12] (itV itemsR (varE 4)) (tgT 11 12) yesT (op2 subD (varE 12) (varE 11))))
    (seqS (aliasS 6 5)
    (seqS (forS (itR rng1 (consA (callB lenD (consA (varE 1) nilA)) nilA)) (tgN 7) (asgS 6 (callF m_law_undone (consA (varE 6) (consA (op2 ixD (varE 1) (op2 subD (op2 subD (callB lenD (consA (varE 1) nilA)) (cE (.int 1))) (varE 7))) (consA (varE 3) nilA))))))
    (seqS (asgS 8 (callB listD (consA (varE 5) nilA)))
    (seqS (asgS 9 (callF m_lowered_breadths (consA (varE 8) (consA (varE 1) (consA (varE 3) nilA)))))
    (seqS (ifS (orT (notT (boolR (callF m_law_same (consA (varE 9) (consA (varE 6) nilA))))) (notT (boolR (callF m_law_same (consA (varE 8) (consA (varE 5) nilA)))))) (retS (cE (.bl false))) nilS)
    (seqS (asgS 10 (callF m_lowered_spans (consA (callF m_law_thinner (consA (varE 4) (consA (op2 fdivD (varE 2) (cE (.int 7))) nilA))) (consA (varE 1) (consA (varE 3) nilA)))))
    (seqS (forS (itR rng1 (consA (callB lenD (consA (varE 6) nilA)) nilA)) (tgN 7) (ifS (boolR (op2 gtD (op2 subD (op2 ixD (op2 ixD (varE 10) (varE 7)) (cE (.int 1))) (op2 ixD (op2 ixD (varE 10) (varE 7)) (cE (.int 0)))) (op2 ixD (varE 9) (varE 7)))) (retS (cE (.bl false))) nilS))
    (seqS (setS 9 (cE (.int 0)) (op2 addD (op2 ixD (varE 9) (cE (.int 0))) (cE (.int 1))))
    (seqS (appS 9 (cE (.int 0)))
    (retS (callF m_law_same (consA (varE 8) (consA (varE 5) nilA))))))))))))))))))
noncomputable def m_law : List D → R D := runB 13 b_law
theorem r_law (x0 : D) : m_law [x0] = bodyR (b_law [some x0, none, none, none, none, none, none, none, none, none, none, none, none]) := rfl
theorem v_law {P : Program} {w : World} {K : PySem.W.Frag} {mg : Str → Option Value} {base : Heap} (T : Txt K mg) (c_law_ladder : Cal P w K mg base "_law_ladder" ["_law_script", "_law_start", "_law_most"] 2 m_law_ladder) (c_law_cell_at : Cal P w K mg base "_law_cell_at" ["_law_script", "_law_k"] 1 m_law_cell_at) (c_law_stride : Cal P w K mg base "_law_stride" ["_law_cell"] 1 m_law_stride) (c_law_spans : Cal P w K mg base "_law_spans" ["_law_script", "_law_start", "_law_cell"] 2 m_law_spans) (c_law_undone : Cal P w K mg base "_law_undone" ["_law_row", "_law_lift_here", "_law_stride_here"] 1 m_law_undone) (c_lowered_breadths : Cal P w K mg base "lowered_breadths" ["row", "ladder", "stride"] 3 m_lowered_breadths) (c_law_same : Cal P w K mg base "_law_same" ["_law_found", "_law_due"] 2 m_law_same) (c_lowered_spans : Cal P w K mg base "lowered_spans" ["row", "ladder", "stride"] 3 m_lowered_spans) (c_law_thinner : Cal P w K mg base "_law_thinner" ["_law_row", "_law_cell"] 1 m_law_thinner) (f : Addr) (cdv : Value) (A : Around) (outer : List PySem.Env) (s : Shared) (H : Hp) (E : XK) (hr : Room 3 (A.deeper (envOfC "law" (defScope s_law) s.heap.objs.size f cdv))) :
    VSs (cxOf (L2.CX P w) P w K mg base ["_law_script", "_law_ladder_here", "_law_cell", "_law_stride_here", "_law_spans_here", "_law_row", "_law_due", "_law_k", "_law_handed", "_law_found", "_law_narrow", "_law_low", "_law_high"] "law" (defScope s_law) f cdv A outer s H E) (fun cls d _ H => E cls d H) [] [] [] (defBody s_law) b_law :=
      (vs_cons (vs_set 1 sc_law.nd rfl (by first | exact Or.inl rfl | exact Or.inr rfl) (vg_fn c_law_ladder hr (takes_of rfl rfl rfl rfl) rfl (va_cons (ve_var 0 (pv 0)) (va_cons (VG.ve vg_int) (va_cons (VG.ve vg_int) va_nil))) (len_cons (len_cons (len_cons len_nil)))))
      (vs_cons (vs_set 2 sc_law.nd rfl (by first | exact Or.inl rfl | exact Or.inr rfl) (vg_fn c_law_cell_at hr (takes_of rfl rfl rfl rfl) rfl (va_cons (ve_var 0 (pv 0)) (va_cons (VG.ve vg_int) va_nil)) (len_cons (len_cons len_nil))))
      (vs_cons (vs_set 3 sc_law.nd rfl (by first | exact Or.inl rfl | exact Or.inr rfl) (vg_fn c_law_stride hr (takes_of rfl rfl rfl rfl) rfl (va_cons (ve_var 2 (pv 2)) va_nil) (len_cons len_nil)))
      (vs_cons (vs_set 4 sc_law.nd rfl (by first | exact Or.inl rfl | exact Or.inr rfl) (vg_fn c_law_spans hr (takes_of rfl rfl rfl rfl) rfl (va_cons (ve_var 0 (pv 0)) (va_cons (VG.ve vg_int) (va_cons (VG.ve (vg_op op_fdivW d_fdiv nx_fdiv (ve_var 2 (pv 2)) (VG.ve vg_int))) va_nil))) (len_cons (len_cons (len_cons len_nil)))))
      (vs_cons (vs_setLc 5 (hsw := (sw_true rfl rfl rfl (by decide +kernel))) (hy := rfl) (hyl := rfl) (hc := rfl) (hN := sc_law.nd) (own := [("_law_low", 11), ("_law_high", 12)]) (vi_seq (vp_var 4 (pv 4))) (blkOk_by (by kernel_rfl)) (tk_tup 11 12) (fun _ _ _ _ _ => (pg_tup rfl (pgs_cons (pg_name (i := 11) sc_law.nd rfl (by first | exact Or.inl rfl | exact Or.inr rfl)) (pgs_cons (pg_name (i := 12) sc_law.nd rfl (by first | exact Or.inl rfl | exact Or.inr rfl)) pgs_nil)))) (fun _ _ _ _ _ => vts_nil) (fun _ _ _ _ _ => (vg_op op_sub d_sub nx_sub (ve_var 12 (pv 12)) (ve_var 11 (pv 11)))))
      (vs_cons (vs_alias 6 5 sc_law.nd rfl (by first | exact Or.inl rfl | exact Or.inr rfl) (pv 5) (own' := [4, 3, 2, 1]))
      (vs_cons (vs_for (own := [4, 3, 2, 1]) (passes_of rfl) rfl (vi_rng1 rfl T.b_range (va_cons (VG.ve (vg_callB call_len cb_len nx_len rfl T.b_len PySem.boot_len (va_cons (ve_var 1 (pv 1)) va_nil))) va_nil)) ⟨_, (pg_name (i := 7) sc_law.nd rfl (by first | exact Or.inl rfl | exact Or.inr rfl)), (tk_name 7)⟩ (VSs.weak (own'' := [4, 3, 2, 1]) (vs_one (vs_set 6 sc_law.nd rfl (by first | exact Or.inl rfl | exact Or.inr rfl) (vg_fn c_law_undone hr (takes_of rfl rfl rfl rfl) rfl (va_cons (ve_var 6 (pv 6)) (va_cons (ve_ix (ve_var 1 (pv 1)) (VG.ve (vg_op op_sub d_sub nx_sub (VG.ve (vg_op op_sub d_sub nx_sub (VG.ve (vg_callB call_len cb_len nx_len rfl T.b_len PySem.boot_len (va_cons (ve_var 1 (pv 1)) va_nil))) (VG.ve vg_int))) (ve_var 7 (pv 7)))) (fun _ _ => rfl)) (va_cons (ve_var 3 (pv 3)) va_nil))) (len_cons (len_cons (len_cons len_nil))))))))
      (vs_cons (vs_set 8 sc_law.nd rfl (by first | exact Or.inl rfl | exact Or.inr rfl) (vg_callTy call_list_of cb_list nx_list rfl T.b_list (by decide +kernel) (va_cons (ve_var 5 (pv 5)) va_nil)))
      (vs_cons (vs_set 9 sc_law.nd rfl (by first | exact Or.inl rfl | exact Or.inr rfl) (vg_fn c_lowered_breadths hr (takes_of rfl rfl rfl rfl) rfl (va_cons (ve_var 8 (pv 8)) (va_cons (ve_var 1 (pv 1)) (va_cons (ve_var 3 (pv 3)) va_nil))) (len_cons (len_cons (len_cons len_nil)))))
      (vs_cons (vs_if (own' := [9, 8, 4, 3, 2, 1]) (VW.vt (vw_or (vt_not (vt_val (VG.ve (vg_fn c_law_same hr (takes_of rfl rfl rfl rfl) rfl (va_cons (ve_var 9 (pv 9)) (va_cons (ve_var 6 (pv 6)) va_nil)) (len_cons (len_cons len_nil)))))) (vw_or1 (vt_not (vt_val (VG.ve (vg_fn c_law_same hr (takes_of rfl rfl rfl rfl) rfl (va_cons (ve_var 8 (pv 8)) (va_cons (ve_var 5 (pv 5)) va_nil)) (len_cons (len_cons len_nil))))))))) (vs_one (vs_ret vg_bl)) vs_nil)
      (vs_cons (vs_set 10 sc_law.nd rfl (by first | exact Or.inl rfl | exact Or.inr rfl) (vg_fn c_lowered_spans hr (takes_of rfl rfl rfl rfl) rfl (va_cons (VG.ve (vg_fn c_law_thinner hr (takes_of rfl rfl rfl rfl) rfl (va_cons (ve_var 4 (pv 4)) (va_cons (VG.ve (vg_op op_fdivW d_fdiv nx_fdiv (ve_var 2 (pv 2)) (VG.ve vg_int))) va_nil)) (len_cons (len_cons len_nil)))) (va_cons (ve_var 1 (pv 1)) (va_cons (ve_var 3 (pv 3)) va_nil))) (len_cons (len_cons (len_cons len_nil)))))
      (vs_cons (vs_for (own := [10, 9, 8, 4, 3, 2, 1]) (passes_of rfl) rfl (vi_rng1 rfl T.b_range (va_cons (VG.ve (vg_callB call_len cb_len nx_len rfl T.b_len PySem.boot_len (va_cons (ve_var 6 (pv 6)) va_nil))) va_nil)) ⟨_, (pg_name (i := 7) sc_law.nd rfl (by first | exact Or.inl rfl | exact Or.inr rfl)), (tk_name 7)⟩ (vs_one (vs_if (own' := [10, 9, 8, 4, 3, 2, 1]) (vt_cmp op_gt d_gt nx_gt (VG.ve (vg_op op_sub d_sub nx_sub (ve_ix (ve_ix (ve_var 10 (pv 10)) (ve_var 7 (pv 7)) (fun _ _ => rfl)) (VG.ve vg_int) (fun _ _ => rfl)) (ve_ix (ve_ix (ve_var 10 (pv 10)) (ve_var 7 (pv 7)) (fun _ _ => rfl)) (VG.ve vg_int) (fun _ _ => rfl)))) (ve_ix (ve_var 9 (pv 9)) (ve_var 7 (pv 7)) (fun _ _ => rfl)) (nomark _)) (vs_one (vs_ret vg_bl)) vs_nil)))
      (vs_cons (vs_setItem 9 (ps_asg (VG.pe (vg_op op_addA d_add nx_add (ve_ix (ve_var 9 (pv 9)) (VG.ve vg_int) (fun _ _ => rfl)) (VG.ve vg_int))) (pg_sub (pv 9) (VE.pe (VG.ve vg_int)) set_list)))
      (vs_cons (vs_append 9 (ps_expr (pe_bm PySem.F.plainAttrs_list PySem.F.slot_list_append PySem.F.type_list_append mt_append (pv 9) (pa_cons (VG.pe vg_int) pa_nil))))
      (vs_one (vs_ret (vg_fn c_law_same hr (takes_of rfl rfl rfl rfl) rfl (va_cons (ve_var 8 (pv 8)) (va_cons (ve_var 5 (pv 5)) va_nil)) (len_cons (len_cons len_nil)))))))))))))))))))
end Lw
namespace Lw
open PySem PySem.Spec PyProof.Rows L2 Vs
local macro_rules | `(tactic| walk_at "ev") => `(tactic| try simp -implicitDefEqProofs only [seqS_eq, seq_nx, seq_rt, seq_st, seq_bk, seq_ct, seq_ex, seq_ite, body_nx, body_rt, body_ex, body_ite, bindS_ok, bindS_st, bindS_ex, bindS_ite, bind_ite, R.bind_ok, R.bind_st, R.bind_ex, var0, varS, retV0, retVS, asgS, cE, op2, negE, negD_int, imm, immD_int, immD_bl, immD_str, immD_non, immD_tup, immDs_nil, immDs_cons, addD_int, subD_int, mulD_ok, fdivD_pos, modD_pos, powD_ok, shlD_ok, shrD_ok, ltD_int, leD_int, gtD_int, geD_int, eqD_int, neD_int, boolR, andT, orT, notT, andE, orE, notE, ifS, retS, retNS, nilS, callB, callF, consA, nilA, lenD_lst, lenD_tup, len_0, len_1, len_2, len_3, absD_int, Int.reduceEq, not_true, not_false_eq_true, ne_eq, neD_int, eqD_pair, neD_pair, maxD_int, minD_int, maxD_l2, minD_l2, List.set_cons_zero, List.set_cons_succ, isiE, chD_eq, chK_bl, ite_bl, eqD_bl, decide_true, decide_false, if_true, if_false, ite_true, ite_false, Bool.not_true, Bool.not_false, decide_eq_true_eq, Bool.not_eq_true', decide_eq_false_iff_not, Bool.false_eq_true, Bool.true_eq_false, exprS, reduceIte, tupE, lstE, List.length_map, isD, isNotD, isNonB, ix0_lst, ix0_tup, ix1_lst, ix1_tup, ix2_lst, ix2_tup, ix3_lst, ix3_tup, ix4_lst, ix4_tup, ix5_lst, ix5_tup, Go_nx, Go_ct, Int.reduceLT, Int.reduceLE, Int.reduceNeg, Int.reduceSub, Int.reduceAdd, Int.reduceMul, Int.reduceToNat, Nat.reduceLT, Nat.reduceLeDiff, Nat.reducePow, Bool.and_true, Bool.and_false, Bool.true_and, Bool.false_and, isT_int_non, isT_int_bl, isT_int_int, isT_int_str, isT_int_lst, isT_int_tup, isT_bool_non, isT_bool_bl, isT_bool_int, isT_bool_str, isT_bool_lst, isT_bool_tup, isT_str_non, isT_str_bl, isT_str_int, isT_str_str, isT_str_lst, isT_str_tup, isT_list_non, isT_list_bl, isT_list_int, isT_list_str, isT_list_lst, isT_list_tup, isT_tuple_non, isT_tuple_bl, isT_tuple_int, isT_tuple_str, isT_tuple_lst, isT_tuple_tup])
/-- the script's cell, 0 behind its end -/
def cell (ns : List Int) (k : Int) : Int := ns.getD k.toNat 0
theorem cell_at (ns : List Int) (k : Int) (h : 0 ≤ k) : m_law_cell_at [.lst (ns.map D.int), .int k] = .ok (.int (cell ns k)) := by
  rw [r_law_cell_at]
  simp only [b_law_cell_at]
  walk_at "ev"
  split
  · rename_i h2
    rw [ixD_ints h h2]
    walk_at "ev"
    rfl
  · rename_i h2
    unfold cell
    rw [List.getD_eq_getElem?_getD, List.getElem?_eq_none (by omega)]
    rfl
theorem whole_int (i : Int) : m_law_whole [.int i] = .ok (.bl true) := by
  rw [r_law_whole]
  simp only [b_law_whole]
  walk_at "ev"

/-- a lift: its half, weights, what is added, its shift -/
structure Lf where
  h : Nat
  l : Int
  r : Int
  a : Int
  s : Nat
def Lf.d (L : Lf) : D := .tup [.int L.h, .int L.l, .int L.r, .int L.a, .int L.s]
def addV (xs : List Int) (S : Nat) (L : Lf) (p : Nat) : Int :=
  if p < S ∧ xs.length ≤ p + S then 0 else
    (L.l * xs.getD (if p < S then p + S else p - S) 0 + L.r * xs.getD (if xs.length ≤ p + S then p - S else p + S) 0 + L.a) / 2 ^ L.s
def liftAt (sg : Int) (xs : List Int) (S : Nat) (L : Lf) (b i : Nat) : Int :=
  if i % S = 0 ∧ (i / S) % 2 = L.h ∧ i < b then xs.getD i 0 + sg * addV xs S L i else xs.getD i 0
def liftB (sg : Int) (xs : List Int) (S : Nat) (L : Lf) (b : Nat) : List Int := (List.range xs.length).map (liftAt sg xs S L b)
def lift (sg : Int) (xs : List Int) (S : Nat) (L : Lf) : List Int := liftB sg xs S L xs.length
section
variable {sg : Int} {xs : List Int} {S : Nat} {L : Lf} {t : Nat}
end
theorem nb (t m S : Int) : m_neighbours [.int t, .int m, .int S] = if t - S < 0 then (if m ≤ t + S then .ok .non else .ok (.tup [.int (t + S), .int (t + S)])) else if m ≤ t + S then .ok (.tup [.int (t - S), .int (t - S)]) else .ok (.tup [.int (t - S), .int (t + S)]) := by
  rw [r_neighbours]
  simp only [b_neighbours]
  walk_at "ev"
  by_cases h1 : t - S < 0 <;> by_cases h2 : m ≤ t + S <;> simp only [h1, h2, decide_true, decide_false, Bool.false_eq_true, if_true, if_false] <;> walk_at "ev"
theorem row_at {xs : List Int} {k : Int} {i : Nat} (h : k = i) (hi : i < xs.length) : ixD (.lst (xs.map D.int)) (.int k) = .ok (.int (xs.getD i 0)) := by
  rw [h, ixD_ints (by omega) (by omega), Int.toNat_natCast]
theorem ediv_abs (z : Int) (k : Nat) : (z / 2 ^ k).natAbs ≤ z.natAbs := by
  have hp : (0 : Int) < 2 ^ k := Int.pow_pos (by decide)
  by_cases h : 0 ≤ z
  · have h1 := Int.ediv_nonneg h (Int.le_of_lt hp)
    have h2 := Int.ediv_le_self (2 ^ k) h
    omega
  · have h1 : z / 2 ^ k < 0 := Int.ediv_neg_of_neg_of_pos (by omega) hp
    have h3 : z * 2 ^ k ≤ z * 1 := Int.mul_le_mul_of_nonpos_left (by omega) (by omega)
    have h4 : z ≤ z / 2 ^ k := (Int.le_ediv_iff_mul_le hp).mpr (by omega)
    omega
theorem mul2 {i j : Int} (h1 : 0 ≤ i) (h2 : i ≤ 1000000) (h3 : 0 ≤ j) (h4 : j ≤ 1000000) : mulD (.int i) (.int j) = .ok (.int (i * j)) := mulD_ok ((Bits.of64 (by omega) (by omega)).ok (Bits.of64 (by omega) (by omega)) (by decide))
def okL (L : Lf) : Prop := L.h ≤ 1 ∧ Bits 64 L.l ∧ Bits 64 L.r ∧ Bits 64 L.a
theorem strideN (k : Nat) (c : Int) (h0 : k ≤ 6) (h1 : (if c / 4 % 8 = 5 then c / 32 % 7 else c % 4) = k) : m_law_stride [.int c] = .ok (.int (2 ^ k)) := by
  rw [r_law_stride]
  simp only [b_law_stride]
  walk_at "ev"
  have fin : bodyR ((Sr.nx [some (.int c), some (.int k), none, none]).seq (seqS (asgS 2 (cE (.int 1)))
    (seqS (forS (itR rng1 (consA (varE 1) nilA)) (tgN 3) (asgS 2 (op2 mulD (varE 2) (cE (.int 2)))))
    (retV 2)))) = .ok (.int (2 ^ k)) := by
    obtain ⟨ρ', e1, x, e2⟩ := forL_go (tf := tgN 3) (b := asgS 2 (op2 mulD (varE 2) (cE (.int 2)))) (fun i ρ => ∃ x, ρ = [some (.int c), some (.int k), some (.int (2 ^ i)), x]) (ds := rngL 0 (k : Int).toNat) (ρ := [some (.int c), some (.int k), some (.int 1), none]) ⟨none, rfl⟩ (fun i d hd ρ hi => by
      obtain ⟨x, rfl⟩ := hi
      obtain ⟨hk, _⟩ := rngL_at hd
      refine ⟨_, rfl, ?_⟩
      have hm : mulOk (2 ^ i) 2 := (Bits.pow2 i).ok (Bits.of64 (by decide) (by decide)) (by omega)
      show Go _ (asgS 2 _ [some (.int c), some (.int k), some (.int (2 ^ i)), some d])
      walk_at "ev"
      rw [mulD_ok hm]
      walk_at "ev"
      exact ⟨some d, by rw [Int.pow_succ]⟩)
    walk_at "ev"
    simp only [forS, itR]
    walk_at "ev"
    rw [rng1_ok (bnd_of (by omega) (by omega))]
    walk_at "ev"
    rw [e1, e2]
    walk_at "ev"
    rw [rngL_length]
    rfl
  by_cases h : c / 4 % 8 = 5
  · rw [if_pos h] at h1 ⊢
    refine Eq.trans ?_ fin
    rw [h1]
    walk_at "ev"
  · rw [if_neg h] at h1 ⊢
    refine Eq.trans ?_ fin
    rw [h1]
    walk_at "ev"
theorem stride (c : Int) : ∃ S : Nat, m_law_stride [.int c] = .ok (.int S) ∧ 0 < S ∧ S ≤ 64 := by
  have h0 : 0 ≤ (if c / 4 % 8 = 5 then c / 32 % 7 else c % 4) := by split <;> omega
  have h : (if c / 4 % 8 = 5 then c / 32 % 7 else c % 4).toNat ≤ 6 := by split <;> omega
  refine ⟨2 ^ (if c / 4 % 8 = 5 then c / 32 % 7 else c % 4).toNat, (strideN _ c h (by omega)).trans ?_, ?_⟩
  · rw [Int.natCast_pow]
    rfl
  · generalize (if c / 4 % 8 = 5 then c / 32 % 7 else c % 4).toNat = n at h
    match n, h with
    | 0, _ => decide
    | 1, _ => decide
    | 2, _ => decide
    | 3, _ => decide
    | 4, _ => decide
    | 5, _ => decide
    | 6, _ => decide
theorem lift_cell (c : Int) : ∃ L : Lf, m_law_lift [.int c] = .ok L.d ∧ okL L ∧ L.s ≤ 8 := by
  have hm : mulOk (c % 2147483647) 48271 := (Bits.of64 (by omega) (by omega)).ok (Bits.of64 (by decide) (by decide)) (by decide)
  rw [r_law_lift]
  simp only [b_law_lift]
  walk_at "ev"
  rw [mulD_ok hm]
  walk_at "ev"
  generalize c % 2147483647 * 48271 % 2147483647 = z
  refine ⟨⟨(z % 2).toNat, z / 2 % 17 - 8, z / 34 % 17 - 8, z / 578 % 129 - 64, (z / 74562 % 9).toNat⟩, ?_, ⟨by show (z % 2).toNat ≤ 1; omega, Bits.of64 (by show _ < z / 2 % 17 - 8; omega) (by show z / 2 % 17 - 8 < _; omega), Bits.of64 (by show _ < z / 34 % 17 - 8; omega) (by show z / 34 % 17 - 8 < _; omega), Bits.of64 (by show _ < z / 578 % 129 - 64; omega) (by show z / 578 % 129 - 64 < _; omega)⟩, by show (z / 74562 % 9).toNat ≤ 8; omega⟩
  simp only [Lf.d]
  rw [Int.toNat_of_nonneg (by omega), Int.toNat_of_nonneg (by omega)]
theorem addD_tup (xs ys : List D) (h : xs.length + ys.length ≤ 1000) (h1 : immDs xs = true) (h2 : immDs ys = true) : addD (.tup xs) (.tup ys) = .ok (.tup (xs ++ ys)) := by
  unfold addD
  simp only
  rw [if_pos ⟨by rw [sizeLine_eq]; omega, h1, h2⟩]
def okM (L : Lf) : Prop := okL L ∧ L.s ≤ 60
def okLs (Ls : List Lf) : Prop := Ls.length ≤ 10 ∧ ∀ L ∈ Ls, okM L
noncomputable def Lc (c : Int) : Lf := Classical.choose (lift_cell c)
theorem Lc_ok (c : Int) : m_law_lift [.int c] = .ok (Lc c).d ∧ okL (Lc c) ∧ (Lc c).s ≤ 8 := Classical.choose_spec (lift_cell c)
noncomputable def gL (ns : List Int) : D → D
  | .int j => (Lc (cell ns (1 + j))).d
  | x => x
theorem gL_map (ns : List Int) (n : Nat) : (rngL 0 n).map (gL ns) = ((List.range n).map fun i : Nat => Lc (cell ns (1 + (0 + (i : Int))))).map Lf.d := by
  unfold rngL
  rw [List.map_map, List.map_map]
  rfl
theorem immDs_d : ∀ Ls : List Lf, immDs (Ls.map Lf.d) = true
  | [] => by rw [List.map_nil, immDs]
  | L :: Ls => by rw [List.map_cons, immDs, immDs_d Ls]; rfl
theorem tupleD_d (Ls : List Lf) : tupleD [.lst (Ls.map Lf.d)] = .ok (.tup (Ls.map Lf.d)) := by
  unfold tupleD
  simp only
  rw [if_pos (immDs_d Ls)]
theorem ladder_ok {ns : List Int} (hl : ns.length ≤ 63) : ∃ Ls : List Lf, m_law_ladder [.lst (ns.map D.int), .int 0, .int 6] = .ok (.tup (Ls.map Lf.d)) ∧ okLs Ls := by
  rw [r_law_ladder]
  simp only [b_law_ladder]
  walk_at "ev"
  rw [cell_at _ _ (by decide)]
  walk_at "ev"
  by_cases h : cell ns 0 % 3 = 0
  · rw [if_pos h, addD_tup _ _ (by decide) rfl rfl]
    walk_at "ev"
    have hq : cell ns 0 / 3 % 4 = 0 ∨ cell ns 0 / 3 % 4 = 1 ∨ cell ns 0 / 3 % 4 = 2 ∨ cell ns 0 / 3 % 4 = 3 := by omega
    have k64 : ∀ z : Int, -100 < z → z < 100 → Bits 64 z := fun z h1 h2 => Bits.of64 (by omega) (by omega)
    have o1 : okM ⟨1, -1, -1, 1, 1⟩ := ⟨⟨by decide, k64 _ (by decide) (by decide), k64 _ (by decide) (by decide), k64 _ (by decide) (by decide)⟩, by decide⟩
    have o2 : okM ⟨0, 1, 1, 2, 2⟩ := ⟨⟨by decide, k64 _ (by decide) (by decide), k64 _ (by decide) (by decide), k64 _ (by decide) (by decide)⟩, by decide⟩
    have o3 : okM ⟨1, -1, 0, 0, 0⟩ := ⟨⟨by decide, k64 _ (by decide) (by decide), k64 _ (by decide) (by decide), k64 _ (by decide) (by decide)⟩, by decide⟩
    have o4 : okM ⟨0, 0, 1, 0, 1⟩ := ⟨⟨by decide, k64 _ (by decide) (by decide), k64 _ (by decide) (by decide), k64 _ (by decide) (by decide)⟩, by decide⟩
    have o5 : okM ⟨1, -1, -1, 4, 3⟩ := ⟨⟨by decide, k64 _ (by decide) (by decide), k64 _ (by decide) (by decide), k64 _ (by decide) (by decide)⟩, by decide⟩
    rcases hq with hq | hq | hq | hq <;> rw [hq] <;> walk_at "ev"
    · exact ⟨[⟨1, -1, -1, 1, 1⟩, ⟨0, 1, 1, 2, 2⟩], rfl, by decide, fun L h => by
        rcases List.mem_cons.mp h with e | h
        · rw [e]; exact o1
        · rw [List.mem_singleton.mp h]; exact o2⟩
    · exact ⟨[⟨1, -1, 0, 0, 0⟩, ⟨0, 0, 1, 0, 1⟩], rfl, by decide, fun L h => by
        rcases List.mem_cons.mp h with e | h
        · rw [e]; exact o3
        · rw [List.mem_singleton.mp h]; exact o4⟩
    · exact ⟨[⟨1, -1, -1, 1, 1⟩, ⟨0, 1, 1, 2, 2⟩, ⟨1, -1, -1, 4, 3⟩], rfl, by decide, fun L h => by
        rcases List.mem_cons.mp h with e | h
        · rw [e]; exact o1
        · rcases List.mem_cons.mp h with e | h
          · rw [e]; exact o2
          · rw [List.mem_singleton.mp h]; exact o5⟩
    · exact ⟨[], rfl, by decide, fun L h => nomatch h⟩
  · rw [if_neg h]
    have t1 : 0 ≤ cell ns 0 / 3 % 7 := by omega
    have t2 : cell ns 0 / 3 % 7 ≤ 6 := by omega
    generalize hT : cell ns 0 / 3 % 7 = T at t1 t2
    rw [lcE_map (g := gL ns) (ds := rngL 0 T.toNat) (by
      unfold itR
      walk_at "ev"
      rw [hT]
      exact rng1_ok (bnd_of (by omega) (by omega))) (le_line1000 (by rw [rngL_length]; omega)) (by
      intro d hd
      obtain ⟨j, _, hd⟩ := rngL_mem hd
      subst hd
      refine ⟨_, rfl, ?_⟩
      show callF _ _ [some (.lst (ns.map D.int)), some (.int 0), some (.int 6), some (.int (cell ns 0)), _, none, some (.int (0 + (j : Int)))] = _
      walk_at "ev"
      rw [cell_at _ _ (by omega)]
      walk_at "ev"
      rw [(Lc_ok _).1]
      rfl)]
    rw [gL_map]
    walk_at "ev"
    rw [tupleD_d]
    walk_at "ev"
    refine ⟨_, rfl, by rw [List.length_map, List.length_range]; omega, fun L h => ?_⟩
    obtain ⟨i, _, rfl⟩ := List.mem_map.mp h
    exact ⟨(Lc_ok _).2.1, Nat.le_trans (Lc_ok _).2.2 (by decide)⟩
/-! spans as pairs -/
def sp (p : Int × Int) : D := .tup [.int p.1, .int p.2]
def tk (L : Lf) (u v : Int × Int) : Int × Int := ((minI (u.1 * L.l) (u.2 * L.l) + minI (v.1 * L.r) (v.2 * L.r) + L.a) / 2 ^ L.s, (maxI (u.1 * L.l) (u.2 * L.l) + maxI (v.1 * L.r) (v.2 * L.r) + L.a) / 2 ^ L.s)
def dnF (L : Lf) (x u v : Int × Int) : Int × Int := (x.1 - (tk L u v).2, x.2 - (tk L u v).1)
structure B2 (n : Nat) (p : Int × Int) : Prop where
  a : Bits n p.1
  b : Bits n p.2
theorem plus_eq (p q : Int × Int) : m_plus [sp p, sp q] = .ok (sp (p.1 + q.1, p.2 + q.2)) := by
  rw [r_plus]
  simp only [b_plus, sp]
  walk_at "ev"
theorem minus_eq (p q : Int × Int) : m_minus [sp p, sp q] = .ok (sp (p.1 - q.2, p.2 - q.1)) := by
  rw [r_minus]
  simp only [b_minus, sp]
  walk_at "ev"
theorem times_eq (p : Int × Int) (m : Int) {n : Nat} (bp : B2 n p) (bm : Bits 64 m) (hn : n ≤ 1000000) : m_times [sp p, .int m] = .ok (sp (minI (p.1 * m) (p.2 * m), maxI (p.1 * m) (p.2 * m))) := by
  rw [r_times]
  simp only [b_times, sp]
  walk_at "ev"
  rw [mulD_ok (bp.a.ok bm (by omega))]
  walk_at "ev"
  rw [mulD_ok (bp.b.ok bm (by omega))]
  walk_at "ev"
theorem halved_eq (p : Int × Int) (s : Nat) : m_halved [sp p, .int s] = .ok (sp (p.1 / 2 ^ s, p.2 / 2 ^ s)) := by
  rw [r_halved]
  simp only [b_halved, sp]
  walk_at "ev"
  rw [shrD_ok (by omega), shrD_ok (by omega)]
  walk_at "ev"
  rw [Int.toNat_natCast]
theorem sp_at {xs : List (Int × Int)} {k : Int} {i : Nat} (h : k = i) (hi : i < xs.length) : ixD (.lst (xs.map sp)) (.int k) = .ok (sp (xs.getD i (0, 0))) := by
  subst h
  refine ixD_lst (by omega) ?_
  rw [Int.toNat_natCast, List.getElem?_map, List.getD_eq_getElem?_getD, List.getElem?_eq_getElem hi]
  rfl
theorem taken_ok {xs : List (Int × Int)} {p S n : Nat} {L : Lf} (hp : p < xs.length) (hS : 0 < S) (bx : ∀ i, B2 n (xs.getD i (0, 0))) (bl : Bits 64 L.l) (br : Bits 64 L.r) (hn : n ≤ 1000000) :
    m_taken [.lst (xs.map sp), .int p, L.d, .int S] = .ok (if p < S ∧ xs.length ≤ p + S then .non else sp (tk L (xs.getD (if p < S then p + S else p - S) (0, 0)) (xs.getD (if xs.length ≤ p + S then p - S else p + S) (0, 0)))) := by
  rw [r_taken]
  simp only [b_taken]
  walk_at "ev"
  rw [nb]
  have hL0 : L.d = .tup [.int L.h, .int L.l, .int L.r, .int L.a, .int L.s] := rfl
  have i1 : ixD L.d (.int 1) = .ok (.int L.l) := by rw [hL0]; exact ix1_tup _ _ _
  have i2 : ixD L.d (.int 2) = .ok (.int L.r) := by rw [hL0]; exact ix2_tup _ _ _ _
  have i3 : ixD L.d (.int 3) = .ok (.int L.a) := by rw [hL0]; exact ix3_tup _ _ _ _ _
  have i4 : ixD L.d (.int 4) = .ok (.int L.s) := by rw [hL0]; exact ix4_tup _ _ _ _ _ _
  have fin : ∀ (u v : Nat), u < xs.length → v < xs.length → ∀ a b : Int, a = u → b = v → bodyR ((Sr.nx [some (.lst (xs.map sp)), some (.int p), some L.d, some (.int S), some (.tup [.int a, .int b]), none]).seq
      (seqS (asgS 5 (callF m_plus (consA (callF m_times (consA (op2 ixD (varE 0) (op2 ixD (varE 4) (cE (.int 0)))) (consA (op2 ixD (varE 2) (cE (.int 1))) nilA))) (consA (callF m_times (consA (op2 ixD (varE 0) (op2 ixD (varE 4) (cE (.int 1)))) (consA (op2 ixD (varE 2) (cE (.int 2))) nilA))) nilA))))
    (retS (callF m_halved (consA (callF m_plus (consA (varE 5) (consA (tupE (consA (imm (op2 ixD (varE 2) (cE (.int 3)))) (consA (imm (op2 ixD (varE 2) (cE (.int 3)))) nilA))) nilA))) (consA (op2 ixD (varE 2) (cE (.int 4))) nilA)))))) = .ok (sp (tk L (xs.getD u (0, 0)) (xs.getD v (0, 0)))) := fun u v hu hv a b ha hb => by
    walk_at "ev"
    rw [sp_at ha hu]
    walk_at "ev"
    rw [i1]
    walk_at "ev"
    rw [times_eq _ _ (bx u) bl hn]
    walk_at "ev"
    rw [sp_at hb hv]
    walk_at "ev"
    rw [i2]
    walk_at "ev"
    rw [times_eq _ _ (bx v) br hn]
    walk_at "ev"
    rw [plus_eq]
    walk_at "ev"
    rw [i3]
    walk_at "ev"
    rw [show (D.tup [.int L.a, .int L.a]) = sp (L.a, L.a) from rfl, plus_eq]
    walk_at "ev"
    rw [i4]
    walk_at "ev"
    rw [halved_eq]
    walk_at "ev"
    rfl
  by_cases h1 : p < S
  · by_cases h2 : xs.length ≤ p + S
    · rw [if_pos (by omega), if_pos (by omega), if_pos ⟨h1, h2⟩]
      walk_at "ev"
    · rw [if_pos (by omega), if_neg (by omega), if_neg (fun z => h2 z.2), if_pos h1, if_neg h2]
      refine Eq.trans ?_ (fin (p + S) (p + S) (by omega) (by omega) ((p : Int) + S) ((p : Int) + S) (by omega) (by omega))
      walk_at "ev"
  · by_cases h2 : xs.length ≤ p + S
    · rw [if_neg (by omega), if_pos (by omega), if_neg (fun z => h1 z.1), if_neg h1, if_pos h2]
      refine Eq.trans ?_ (fin (p - S) (p - S) (by omega) (by omega) ((p : Int) - S) ((p : Int) - S) (by omega) (by omega))
      walk_at "ev"
    · rw [if_neg (by omega), if_neg (by omega), if_neg (fun z => h1 z.1), if_neg h1, if_neg h2]
      refine Eq.trans ?_ (fin (p - S) (p + S) (by omega) (by omega) ((p : Int) - S) ((p : Int) + S) (by omega) (by omega))
      walk_at "ev"
theorem setS_map {α : Type} {f : α → D} {i : Nat} {fk fe : Vs.Env → R D} {ρ : Vs.Env} {xs : List α} {k : Int} {v : α} (he : fe ρ = .ok (f v)) (hρ : ρ[i]? = some (some (.lst (xs.map f)))) (hk : fk ρ = .ok (.int k)) (h0 : 0 ≤ k) (h : k < xs.length) :
    setS i fk fe ρ = .nx (ρ.set i (some (.lst ((xs.set k.toNat v).map f)))) := by
  unfold setS
  rw [he]
  simp only [bindS_ok]
  rw [hρ]
  simp only
  rw [hk]
  simp only [bindS_ok]
  rw [ixN_lt h0 (by rw [List.length_map]; exact h)]
  simp only
  rw [List.map_set]
theorem bits_min {a b : Int} {n : Nat} (x : Bits n a) (y : Bits n b) : Bits n (minI a b) := by unfold minI; split <;> assumption
theorem bits_max {a b : Int} {n : Nat} (x : Bits n a) (y : Bits n b) : Bits n (maxI a b) := by unfold maxI; split <;> assumption
theorem tk_bits {L : Lf} (hL : okL L) {u v : Int × Int} {n : Nat} (bu : B2 n u) (bv : B2 n v) : B2 (n + 67) (tk L u v) := by
  obtain ⟨_, h2, h3, h4⟩ := hL
  have c1 := ((bits_min (bu.a.mul h2) (bu.b.mul h2)).add (bits_min (bv.a.mul h3) (bv.b.mul h3))).mono (show _ ≤ n + 66 by omega)
  have c2 := ((bits_max (bu.a.mul h2) (bu.b.mul h2)).add (bits_max (bv.a.mul h3) (bv.b.mul h3))).mono (show _ ≤ n + 66 by omega)
  have d1 := c1.add (h4.mono (show 64 ≤ n + 66 by omega))
  have d2 := c2.add (h4.mono (show 64 ≤ n + 66 by omega))
  exact ⟨⟨Nat.lt_of_le_of_lt (ediv_abs _ _) d1.lt⟩, ⟨Nat.lt_of_le_of_lt (ediv_abs _ _) d2.lt⟩⟩
theorem dn_bits {L : Lf} (hL : okL L) {x u v : Int × Int} {n : Nat} (bx : B2 n x) (bu : B2 n u) (bv : B2 n v) : B2 (n + 68) (dnF L x u v) := by
  have t := tk_bits hL bu bv
  exact ⟨((bx.a.mono (show n ≤ n + 67 by omega)).sub t.b), ((bx.b.mono (show n ≤ n + 67 by omega)).sub t.a)⟩
theorem lg_bits {L : Lf} (hL : okL L) {xs : List (Int × Int)} {S b n : Nat} (bx : ∀ i, B2 n (xs.getD i (0, 0))) (i : Nat) : B2 (n + 68) ((lgB (0, 0) (dnF L) xs S L.h b).getD i (0, 0)) := by
  have up : ∀ {p : Int × Int}, B2 n p → B2 (n + 68) p := fun h => ⟨h.a.mono (by omega), h.b.mono (by omega)⟩
  by_cases hi : i < xs.length
  · rw [lgB_getD hi]
    unfold lgAt
    split
    · unfold lgNew
      split
      · exact up (bx i)
      · exact dn_bits hL (bx _) (bx _) (bx _)
    · exact up (bx i)
  · rw [lg_none (by rw [lgB_length]; omega)]
    have := bx xs.length
    rw [lg_none (Nat.le_refl _)] at this
    exact up this
theorem turn_sp {xs : List (Int × Int)} {S n : Nat} {L : Lf} (hS : 0 < S) (hS2 : S ≤ 1000) (hl : xs.length ≤ 100000) (hL : okL L) (bx : ∀ i, B2 n (xs.getD i (0, 0))) (hn : n ≤ 999000)
    (x0 x1 x6 x7 : Option D) :
    ∃ x6' x7', forS (itR rngS (consA (op2 mulD (op2 ixD (varE 5) (cE (.int 0))) (varE 2)) (consA (varE 4) (consA (op2 mulD (cE (.int 2)) (varE 2)) nilA)))) (tgN 6) (seqS (asgS 7 (callF m_taken (consA (varE 3) (consA (varE 6) (consA (varE 5) (consA (varE 2) nilA))))))
    (ifS (boolR (op2 isNotD (varE 7) (cE .non))) (setS 3 (varE 6) (callF m_minus (consA (op2 ixD (varE 3) (varE 6)) (consA (varE 7) nilA)))) nilS))
      [x0, x1, some (.int S), some (.lst (xs.map sp)), some (.int xs.length), some L.d, x6, x7] = .nx [x0, x1, some (.int S), some (.lst ((lg (0, 0) (dnF L) xs S L.h).map sp)), some (.int xs.length), some L.d, x6', x7'] := by
  have hLk := hL
  obtain ⟨h1, h2, h3, h4⟩ := hL
  have hL0 : L.d = .tup [.int L.h, .int L.l, .int L.r, .int L.a, .int L.s] := rfl
  have hi0 : ixD L.d (.int 0) = .ok (.int L.h) := by rw [hL0]; exact ix0_tup _ _
  simp only [forS, itR]
  walk_at "ev"
  rw [hi0]
  walk_at "ev"
  rw [mul2 (by omega) (by omega) (by omega) (by omega)]
  walk_at "ev"
  rw [mul2 (by omega) (by omega) (by omega) (by omega)]
  walk_at "ev"
  have hm : L.h * S ≤ 1 * S := Nat.mul_le_mul_right S h1
  have hm2 : ((L.h : Int) * (S : Int)) = ((L.h * S : Nat) : Int) := by rw [Int.natCast_mul]
  rw [hm2, rngS_pos (bnd_of (by omega) (by omega)) (bnd_of (by omega) (by omega)) (by omega) (by omega)]
  walk_at "ev"
  obtain ⟨q1, q2⟩ := rangeSize_spec (i := ((L.h * S : Nat) : Int)) (j := xs.length) (c := 2 * (S : Int)) (by omega)
  generalize (Builtin.Range.rangeSize ((L.h * S : Nat) : Int) xs.length (2 * (S : Int))).toNat = T at q1 q2
  have ep : ∀ t : Nat, ((L.h * S : Nat) : Int) + (t : Int) * (2 * (S : Int)) = (((L.h + 2 * t) * S : Nat) : Int) := fun t => by
    rw [Nat.add_mul, Int.natCast_add, Nat.mul_comm 2 t, Nat.mul_assoc, Int.natCast_mul t, Int.natCast_mul 2]
    rfl
  obtain ⟨ρ', e1, x6', x7', e2⟩ := forL_go (tf := tgN 6) (b := (seqS (asgS 7 (callF m_taken (consA (varE 3) (consA (varE 6) (consA (varE 5) (consA (varE 2) nilA))))))
    (ifS (boolR (op2 isNotD (varE 7) (cE .non))) (setS 3 (varE 6) (callF m_minus (consA (op2 ixD (varE 3) (varE 6)) (consA (varE 7) nilA)))) nilS)))
    (ds := rngC ((L.h * S : Nat) : Int) (2 * (S : Int)) T) (ρ := [x0, x1, some (.int S), some (.lst (xs.map sp)), some (.int xs.length), some L.d, x6, x7])
    (fun t ρ => ∃ x6 x7, ρ = [x0, x1, some (.int S), some (.lst ((lgB (0, 0) (dnF L) xs S L.h ((L.h + 2 * t) * S)).map sp)), some (.int xs.length), some L.d, x6, x7])
    ⟨x6, x7, by rw [lgB_start hS (by rw [Nat.mul_zero, Nat.add_zero]; exact Nat.le_refl _) h1]⟩ (fun t d hd ρ hi => by
      obtain ⟨x6, x7, rfl⟩ := hi
      obtain ⟨ht, hd⟩ := rngC_at hd
      have hp := q1 t ht
      rw [ep] at hp hd
      subst hd
      refine ⟨_, rfl, ?_⟩
      have hp' : (L.h + 2 * t) * S < xs.length := by omega
      have hnew := lg_step_new (z := ((0 : Int), (0 : Int))) (F := dnF L) (xs := xs) (t := t) hS h1
      have hset := lg_step_set (z := ((0 : Int), (0 : Int))) (F := dnF L) (xs := xs) (t := t) hS h1 hp'
      have hb := lg_bits (S := S) (b := (L.h + 2 * t) * S) hLk bx
      rw [← hset, ← hnew]
      have hlen : (lgB (0, 0) (dnF L) xs S L.h ((L.h + 2 * t) * S)).length = xs.length := lgB_length
      generalize lgB (0, 0) (dnF L) xs S L.h ((L.h + 2 * t) * S) = ys at hb hlen
      generalize (L.h + 2 * t) * S = p at hp'
      show Go _ (seqS (asgS 7 (callF m_taken (consA (varE 3) (consA (varE 6) (consA (varE 5) (consA (varE 2) nilA))))))
        (ifS (boolR (op2 isNotD (varE 7) (cE .non))) (setS 3 (varE 6) (callF m_minus (consA (op2 ixD (varE 3) (varE 6)) (consA (varE 7) nilA)))) nilS) [x0, x1, some (.int S), some (.lst (ys.map sp)), some (.int xs.length), some L.d, some (.int (p : Int)), x7])
      walk_at "ev"
      rw [taken_ok (by omega) hS hb h2 h3 (by omega)]
      unfold lgNew
      split
      · rename_i hc
        walk_at "ev"
        refine ⟨some (.int (p : Int)), some .non, ?_⟩
        have hself : ys.set p (ys.getD p (0, 0)) = ys := by
          refine lg_ext (0, 0) List.length_set fun i hi => ?_
          rw [List.getD_eq_getElem?_getD, List.getElem?_set]
          by_cases hq : p = i
          · subst hq
            rw [if_pos rfl, if_pos (by omega)]
            rfl
          · rw [if_neg hq, ← List.getD_eq_getElem?_getD]
        rw [hself]
      · rename_i hc
        generalize ys.getD (if p < S then p + S else p - S) (0, 0) = u
        generalize ys.getD (if ys.length ≤ p + S then p - S else p + S) (0, 0) = v
        have hn2 : isNonB (sp (tk L u v)) = false := rfl
        walk_at "ev"
        split
        · rename_i hh
          cases hh
        · rw [if_pos rfl]
          rw [setS_map (xs := ys) (f := sp) (k := (p : Int)) (v := dnF L (ys.getD p (0, 0)) u v) (by
            walk_at "ev"
            rw [sp_at rfl (by omega)]
            walk_at "ev"
            rw [minus_eq]
            rfl) rfl (by walk_at "ev") (by omega) (by omega)]
          rw [Int.toNat_natCast]
          exact ⟨_, _, rfl⟩)
  refine ⟨x6', x7', ?_⟩
  rw [e1, e2, rngC_length, lgB_end]
  rw [ep] at q2
  omega
def dnL (S : Nat) (xs : List (Int × Int)) (Ls : List Lf) : List (Int × Int) := Ls.foldl (fun ys L => lg (0, 0) (dnF L) ys S L.h) xs
theorem dnL_length (S : Nat) : ∀ (Ls : List Lf) (xs : List (Int × Int)), (dnL S xs Ls).length = xs.length
  | [], _ => rfl
  | L :: Ls, xs => (dnL_length S Ls (lg (0, 0) (dnF L) xs S L.h)).trans lg_length
theorem loop_sp {S : Nat} (hS : 0 < S) (hS2 : S ≤ 1000) (x0 x1 : Option D) :
    ∀ (Ls : List Lf) (xs : List (Int × Int)) (n m : Nat) (x5 x6 x7 : Option D), xs.length = m → m ≤ 100000 → (∀ L ∈ Ls, okL L) → (∀ i, B2 n (xs.getD i (0, 0))) → n + 68 * Ls.length ≤ 999000 →
      ∃ x5' x6' x7', forL (tgN 5) (forS (itR rngS (consA (op2 mulD (op2 ixD (varE 5) (cE (.int 0))) (varE 2)) (consA (varE 4) (consA (op2 mulD (cE (.int 2)) (varE 2)) nilA)))) (tgN 6) (seqS (asgS 7 (callF m_taken (consA (varE 3) (consA (varE 6) (consA (varE 5) (consA (varE 2) nilA))))))
    (ifS (boolR (op2 isNotD (varE 7) (cE .non))) (setS 3 (varE 6) (callF m_minus (consA (op2 ixD (varE 3) (varE 6)) (consA (varE 7) nilA)))) nilS))) (Ls.map Lf.d)
      [x0, x1, some (.int S), some (.lst (xs.map sp)), some (.int m), x5, x6, x7] = .nx [x0, x1, some (.int S), some (.lst ((dnL S xs Ls).map sp)), some (.int m), x5', x6', x7']
  | [], xs, n, m, x5, x6, x7, _, _, _, _, _ => ⟨x5, x6, x7, rfl⟩
  | L :: Ls, xs, n, m, x5, x6, x7, e, hm, hL, bx, hn => by
    rw [List.length_cons] at hn
    subst e
    obtain ⟨x6', x7', e1⟩ := turn_sp hS hS2 hm (hL L List.mem_cons_self) bx (by omega) x0 x1 x6 x7
    obtain ⟨x5'', x6'', x7'', e2⟩ := loop_sp hS hS2 x0 x1 Ls (lg (0, 0) (dnF L) xs S L.h) (n + 68) xs.length (some L.d) x6' x7' lg_length hm (fun L' h => hL L' (List.mem_cons_of_mem _ h)) (fun i => lg_bits (hL L List.mem_cons_self) bx i) (by omega)
    refine ⟨x5'', x6'', x7'', ?_⟩
    rw [List.map_cons, forL]
    simp only [tgN, List.set_cons_succ, List.set_cons_zero]
    rw [e1]
    exact e2
theorem immDs_sp : ∀ xs : List (Int × Int), immDs (xs.map sp) = true
  | [] => by rw [List.map_nil, immDs]
  | x :: xs => by rw [List.map_cons, immDs, immDs_sp xs]; rfl
theorem listD_sp (xs : List (Int × Int)) : listD [.lst (xs.map sp)] = .ok (.lst (xs.map sp)) := by
  unfold listD
  simp only
  rw [if_pos (immDs_sp xs)]
theorem lowered_spans_ok {S n : Nat} {xs : List (Int × Int)} {Ls : List Lf} (hS : 0 < S) (hS2 : S ≤ 1000) (hl : xs.length ≤ 100000) (hL : ∀ L ∈ Ls, okL L) (bx : ∀ i, B2 n (xs.getD i (0, 0))) (hn : n + 68 * Ls.length ≤ 999000) :
    m_lowered_spans [.lst (xs.map sp), .tup (Ls.map Lf.d), .int S] = .ok (.lst ((dnL S xs Ls.reverse).map sp)) := by
  rw [r_lowered_spans]
  simp only [b_lowered_spans]
  obtain ⟨x5, x6, x7, e⟩ := loop_sp hS hS2 (some (.lst (xs.map sp))) (some (.tup (Ls.map Lf.d))) Ls.reverse xs n xs.length none none none rfl hl (fun L h => hL L (List.mem_reverse.mp h)) bx (by rw [List.length_reverse]; exact hn)
  walk_at "ev"
  rw [listD_sp]
  walk_at "ev"
  rw [forS]
  simp only [itV]
  walk_at "ev"
  rw [revR]
  walk_at "ev"
  rw [← List.map_reverse, e]
  walk_at "ev"
theorem h60 : mulOk 2 (10 ^ 60) := (Bits.of64 (by decide) (by decide) : Bits 64 2).ok (⟨by decide⟩ : Bits 200 ((10 : Int) ^ 60)) (by decide)
theorem p60 : (0 : Int) < 2 * 10 ^ 60 + 1 := by decide
theorem appS_map {α : Type} {f : α → D} {i : Nat} {g : Vs.Env → R D} {ρ : Vs.Env} {xs : List α} {v : α} (he : g ρ = .ok (f v)) (hρ : ρ[i]? = some (some (.lst (xs.map f)))) (h : xs.length < 16000000) :
    appS i g ρ = .nx (ρ.set i (some (.lst ((xs ++ [v]).map f)))) := by
  unfold appS
  rw [hρ]
  simp only
  rw [he]
  simp only [bindS_ok]
  rw [if_pos (by rw [sizeLine_eq, List.length_map]; omega), List.map_append]
  rfl
def far (c : Int) : Int := if c % 3 = 0 then 0 else if c % 3 = 1 then c / 3 % 5 else c / 3 % 10 ^ 60
theorem far_in (c : Int) : 0 ≤ far c ∧ far c < 10 ^ 60 := by
  have e : (10 : Int) ^ 60 = 1000000000000000000000000000000000000000000000000000000000000 := by decide
  unfold far
  rw [e]
  split
  · omega
  · split <;> omega
theorem far_eq (c : Int) : m_law_far [.int c] = .ok (.int (far c)) := by
  rw [r_law_far]
  simp only [b_law_far]
  walk_at "ev"
  unfold far
  split
  · rfl
  · split
    · rfl
    · rw [modD_pos (by decide)]
      rfl
def okS (p : Int × Int) : Prop := p.1 ≤ p.2 ∧ B2 210 p
theorem ok_mk {lo fa : Int} (h1 : -10 ^ 60 ≤ lo) (h2 : lo ≤ 10 ^ 60) (h3 : 0 ≤ fa) (h4 : fa < 10 ^ 60) : okS (lo, lo + fa) := by
  have e : ((2 : Nat) ^ 210 : Nat) > ((10 : Int) ^ 61).toNat := by decide
  exact ⟨by show lo ≤ lo + fa; omega, ⟨by show lo.natAbs < _; omega⟩, ⟨by show (lo + fa).natAbs < _; omega⟩⟩
theorem spans_ok {ns : List Int} (hl : ns.length ≤ 63) (c : Int) : ∃ xs : List (Int × Int), m_law_spans [.lst (ns.map D.int), .int 8, .int c] = .ok (.lst (xs.map sp)) ∧ 1 ≤ xs.length ∧ xs.length ≤ 80 ∧ ∀ p ∈ xs, okS p := by
  rw [r_law_spans]
  simp only [b_law_spans]
  walk_at "ev"
  simp only [forS, itR]
  walk_at "ev"
  rw [rngS_pos (bnd_of (by decide) (by decide)) (bnd_of (by decide) (by decide)) (by decide) (by decide)]
  walk_at "ev"
  rw [show (Builtin.Range.rangeSize 8 62 2).toNat = 27 from by decide]
  refine body_forE (fun t ρ => ∃ (ws : List (Int × Int)) (num : Int) (x5 x6 : Option D), ws.length ≤ t ∧ (1 ≤ t → 1 ≤ ws.length) ∧ (∀ p ∈ ws, okS p) ∧ 0 ≤ num ∧ num < 2147483647 ∧ ρ = [some (.lst (ns.map D.int)), some (.int 8), some (.int c), some (.lst (ws.map sp)), some (.int num), x5, x6])
    ⟨[], _, none, none, Nat.le_refl _, (fun h => absurd h (by decide)), (fun p h => nomatch h), by omega, by omega, rfl⟩ (fun t d hd ρ hi => ?_) (fun ρ ⟨ws, num, x5, x6, w1, w2, w3, w4, w5, hρ⟩ => ?_)
  · obtain ⟨ws, num, x5, x6, w1, w2, w3, w4, w5, rfl⟩ := hi
    obtain ⟨ht, rfl⟩ := rngC_at hd
    refine ⟨_, rfl, ?_⟩
    have hk : (8 : Int) + (t : Int) * 2 = ((8 + t * 2 : Nat) : Int) := by omega
    rw [hk]
    show Go _ (seqS _ _ [some (.lst (ns.map D.int)), some (.int 8), some (.int c), some (.lst (ws.map sp)), some (.int num), some (.int ((8 + t * 2 : Nat) : Int)), x6])
    walk_at "ev"
    rw [mulD_ok ((Bits.of64 (by omega) (by omega)).ok (Bits.of64 (by omega) (by omega)) (by decide)), mulD_ok ((Bits.of64 (by decide) (by decide)).ok (Bits.of64 (by omega) (by omega)) (by decide))]
    walk_at "ev"
    have a1 := Int.emod_nonneg (num * num + 69621 * num + ((8 + t * 2 : Nat) : Int)) (show (2147483647 : Int) ≠ 0 by decide)
    have a2 := Int.emod_lt_of_pos (num * num + 69621 * num + ((8 + t * 2 : Nat) : Int)) (show (0 : Int) < 2147483647 by decide)
    generalize (num * num + 69621 * num + ((8 + t * 2 : Nat) : Int)) % 2147483647 = q at a1 a2
    have put : ∀ p : Int × Int, okS p → ∀ y ∈ ws ++ [p], okS y := fun p hp y hy => by
      rcases List.mem_append.mp hy with h | h
      · exact w3 y h
      · rw [List.mem_singleton.mp h]; exact hp
    split
    · rename_i h
      rw [ixD_ints (by omega) (by omega), mulD_ok h60]
      walk_at "ev"
      rw [modD_pos p60]
      walk_at "ev"
      generalize ns.getD ((8 + t * 2 : Nat) : Int).toNat 0 = c1
      have b1 := Int.emod_nonneg c1 (Int.ne_of_gt p60)
      have b2 := Int.emod_lt_of_pos c1 p60
      generalize c1 % (2 * 10 ^ 60 + 1) = c2 at b1 b2
      have hf := far_in (cell ns (((8 + t * 2 : Nat) : Int) + 1))
      rw [appS_map (f := sp) (xs := ws) (v := (c2 - 10 ^ 60, c2 - 10 ^ 60 + far (cell ns (((8 + t * 2 : Nat) : Int) + 1)))) (by
        walk_at "ev"
        rw [cell_at _ _ (by omega)]
        walk_at "ev"
        rw [far_eq]
        walk_at "ev"
        rfl) rfl (by omega)]
      exact ⟨_, q, _, _, by rw [List.length_append]; show ws.length + 1 ≤ t + 1; omega, (fun _ => by rw [List.length_append]; show 1 ≤ ws.length + 1; omega), put _ (ok_mk (by omega) (by omega) hf.1 hf.2), a1, a2, rfl⟩
    · rename_i h
      have hm5 : mulD (.int 2) (.int (c % 5)) = .ok (.int (2 * (c % 5))) := mulD_ok ((Bits.of64 (by decide) (by decide)).ok (Bits.of64 (by omega) (by omega)) (by decide))
      rw [hm5]
      walk_at "ev"
      split
      · have hf := far_in (q / 401)
        rw [appS_map (f := sp) (xs := ws) (v := (q % 401 - 200, q % 401 - 200 + far (q / 401))) (by
          walk_at "ev"
          rw [far_eq]
          walk_at "ev"
          rfl) rfl (by omega)]
        have e60 : (10 : Int) ^ 60 = 1000000000000000000000000000000000000000000000000000000000000 := by decide
        exact ⟨_, q, _, _, by rw [List.length_append]; show ws.length + 1 ≤ t + 1; omega, (fun _ => by rw [List.length_append]; show 1 ≤ ws.length + 1; omega), put _ (ok_mk (by omega) (by omega) hf.1 hf.2), a1, a2, rfl⟩
      · rename_i h7
        exact ⟨ws, q, _, _, by omega, (fun _ => w2 (by omega)), w3, a1, a2, rfl⟩
  · subst hρ
    rw [rngC_length] at w1 w2
    exact ⟨ws, rfl, w2 (by decide), by omega, w3⟩
theorem bits_of2 {n : Nat} {xs : List (Int × Int)} (h : ∀ p ∈ xs, B2 n p) (h0 : 1 ≤ n) (i : Nat) : B2 n (xs.getD i (0, 0)) := by
  by_cases hi : i < xs.length
  · rw [List.getD_eq_getElem?_getD, List.getElem?_eq_getElem hi]
    exact h _ (List.getElem_mem hi)
  · rw [lg_none (by omega)]
    have : 0 < (2 : Nat) ^ n := Nat.pow_pos (by decide)
    exact ⟨⟨this⟩, ⟨this⟩⟩
/-! k11: nested spans -/
def N2 (p q : Int × Int) : Prop := q.1 ≤ p.1 ∧ p.1 ≤ p.2 ∧ p.2 ≤ q.2
/-- two rows whose things stand so to one another -/
def Rel {α β : Type} (P : α → β → Prop) (z : α) (w : β) (xs : List α) (ys : List β) : Prop := xs.length = ys.length ∧ ∀ i, i < xs.length → P (xs.getD i z) (ys.getD i w)
theorem lg_rel {α β : Type} {P : α → β → Prop} {z : α} {w : β} {F : α → α → α → α} {G : β → β → β → β} {xs : List α} {ys : List β} {S h : Nat}
    (hF : ∀ x u v x' u' v', P x x' → P u u' → P v v' → P (F x u v) (G x' u' v')) (hr : Rel P z w xs ys) : Rel P z w (lg z F xs S h) (lg w G ys S h) := by
  obtain ⟨hl, hi⟩ := hr
  refine ⟨by rw [lg_length, lg_length]; exact hl, fun i k => ?_⟩
  rw [lg_length] at k
  unfold lg
  rw [lgB_getD k, lgB_getD (by omega)]
  unfold lgAt
  rw [← hl]
  split
  · unfold lgNew
    rw [← hl]
    split
    · exact hi i k
    · rename_i hn
      exact hF _ _ _ _ _ _ (hi i k) (hi _ (by split <;> omega)) (hi _ (by split <;> omega))
  · exact hi i k
theorem okS_in {xs ys : List (Int × Int)} (h : Rel N2 (0, 0) (0, 0) ys xs) (hx : ∀ p ∈ xs, okS p) : ∀ p ∈ ys, okS p := fun p hp => by
  obtain ⟨i, hi, rfl⟩ := List.getElem_of_mem hp
  have hi' : i < xs.length := by have := h.1; omega
  have k := h.2 i hi
  rw [List.getD_eq_getElem?_getD, List.getElem?_eq_getElem hi, List.getD_eq_getElem?_getD, List.getElem?_eq_getElem hi'] at k
  obtain ⟨k1, k2, k3⟩ := k
  obtain ⟨o1, o2, o3⟩ := hx _ (List.getElem_mem hi')
  have o2 := o2.lt
  have o3 := o3.lt
  exact ⟨k2, ⟨by show Int.natAbs _ < _; simp only [Option.getD_some] at *; omega⟩, ⟨by show Int.natAbs _ < _; simp only [Option.getD_some] at *; omega⟩⟩
/-! k13: breadths -/
theorem up_div (m p : Int) (hp : 0 < p) : 0 - (0 - m) / p = (m + p - 1) / p := by
  have h1 := Int.mul_ediv_self_le (x := m + p - 1) (k := p) (by omega)
  have h2 := Int.lt_mul_ediv_self_add (x := m + p - 1) (k := p) hp
  generalize (m + p - 1) / p = q at *
  have h3 : (0 - m) / p = -q := by
    have a1 : -q ≤ (0 - m) / p := (Int.le_ediv_iff_mul_le hp).mpr (by rw [Int.neg_mul, Int.mul_comm]; omega)
    have a2 : (0 - m) / p < -q + 1 := (Int.ediv_lt_iff_lt_mul hp).mpr (by rw [Int.add_mul, Int.neg_mul, Int.mul_comm, Int.one_mul]; omega)
    omega
  omega
/-- without sign -/
def ab (z : Int) : Int := if z < 0 then -z else z
def dnB (L : Lf) (x u v : Int) : Int := x + (0 - (0 - (ab L.l * u + ab L.r * v)) / 2 ^ L.s)
theorem ab_bits {z : Int} {n : Nat} (h : Bits n z) : Bits n (ab z) := by unfold ab; split; exact h.neg; exact h
theorem brd_bits {L : Lf} (hL : okL L) {u v : Int} {n : Nat} (bu : Bits n u) (bv : Bits n v) : Bits (n + 67) (0 - (0 - (ab L.l * u + ab L.r * v)) / 2 ^ L.s) := by
  obtain ⟨_, h2, h3, h4⟩ := hL
  have c1 := (((ab_bits h2).mul bu).add ((ab_bits h3).mul bv)).mono (show _ ≤ n + 66 by omega)
  have c2 : Bits (n + 66) (0 - (ab L.l * u + ab L.r * v)) := by rw [Int.zero_sub]; exact c1.neg
  have c3 : Bits (n + 66) ((0 - (ab L.l * u + ab L.r * v)) / 2 ^ L.s) := ⟨Nat.lt_of_le_of_lt (ediv_abs _ _) c2.lt⟩
  rw [Int.zero_sub]
  exact c3.neg.mono (by omega)
theorem dnB_bits {L : Lf} (hL : okL L) {x u v : Int} {n : Nat} (bx : Bits n x) (bu : Bits n u) (bv : Bits n v) : Bits (n + 68) (dnB L x u v) := (bx.mono (show n ≤ n + 67 by omega)).add (brd_bits hL bu bv)
theorem lgI_bits {F : Int → Int → Int → Int} {xs : List Int} {S h b n m : Nat} (hF : ∀ x u v, Bits n x → Bits n u → Bits n v → Bits m (F x u v)) (hnm : n ≤ m) (bx : ∀ i, Bits n (xs.getD i 0)) (i : Nat) : Bits m ((lgB 0 F xs S h b).getD i 0) := by
  by_cases hi : i < xs.length
  · rw [lgB_getD hi]
    unfold lgAt
    split
    · unfold lgNew
      split
      · exact (bx i).mono hnm
      · exact hF _ _ _ (bx _) (bx _) (bx _)
    · exact (bx i).mono hnm
  · rw [lg_none (by rw [lgB_length]; omega)]
    have := bx xs.length
    rw [lg_none (Nat.le_refl _)] at this
    exact this.mono hnm
theorem broadened_ok {xs : List Int} {p S n : Nat} {L : Lf} (hp : p < xs.length) (hS : 0 < S) (bx : ∀ i, Bits n (xs.getD i 0)) (bl : Bits 64 L.l) (br : Bits 64 L.r) (hn : n ≤ 1000000) :
    ∃ z, m_broadened [.lst (xs.map D.int), .int p, L.d, .int S] = .ok (.int z) ∧ xs.getD p 0 + z = lgNew 0 (dnB L) xs S p := by
  rw [r_broadened]
  simp only [b_broadened]
  walk_at "ev"
  rw [nb]
  have hL0 : L.d = .tup [.int L.h, .int L.l, .int L.r, .int L.a, .int L.s] := rfl
  have i1 : ixD L.d (.int 1) = .ok (.int L.l) := by rw [hL0]; exact ix1_tup _ _ _
  have i2 : ixD L.d (.int 2) = .ok (.int L.r) := by rw [hL0]; exact ix2_tup _ _ _ _
  have i4 : ixD L.d (.int 4) = .ok (.int L.s) := by rw [hL0]; exact ix4_tup _ _ _ _ _ _
  have fin : ∀ (u v : Nat), u < xs.length → v < xs.length → ∀ a b : Int, a = u → b = v → bodyR ((Sr.nx [some (.lst (xs.map D.int)), some (.int p), some L.d, some (.int S), some (.tup [.int a, .int b]), none]).seq
      (seqS (asgS 5 (op2 addD (op2 mulD (callB absD (consA (op2 ixD (varE 2) (cE (.int 1))) nilA)) (op2 ixD (varE 0) (op2 ixD (varE 4) (cE (.int 0))))) (op2 mulD (callB absD (consA (op2 ixD (varE 2) (cE (.int 2))) nilA)) (op2 ixD (varE 0) (op2 ixD (varE 4) (cE (.int 1)))))))
    (retS (op2 subD (cE (.int 0)) (op2 shrD (op2 subD (cE (.int 0)) (varE 5)) (op2 ixD (varE 2) (cE (.int 4)))))))) = .ok (.int (0 - (0 - (ab L.l * xs.getD u 0 + ab L.r * xs.getD v 0)) / 2 ^ L.s)) := fun u v hu hv a b ha hb => by
    walk_at "ev"
    rw [i1]
    walk_at "ev"
    rw [row_at ha hu]
    walk_at "ev"
    rw [show (if L.l < 0 then -L.l else L.l) = ab L.l from rfl, mulD_ok ((ab_bits bl).ok (bx u) (by omega))]
    walk_at "ev"
    rw [i2]
    walk_at "ev"
    rw [row_at hb hv]
    walk_at "ev"
    rw [show (if L.r < 0 then -L.r else L.r) = ab L.r from rfl, mulD_ok ((ab_bits br).ok (bx v) (by omega))]
    walk_at "ev"
    rw [i4]
    walk_at "ev"
    rw [shrD_ok (by omega)]
    walk_at "ev"
    rw [Int.toNat_natCast]
  unfold lgNew
  by_cases h1 : p < S
  · by_cases h2 : xs.length ≤ p + S
    · rw [if_pos (by omega), if_pos (by omega), if_pos ⟨h1, h2⟩]
      walk_at "ev"
      exact ⟨0, rfl, Int.add_zero _⟩
    · rw [if_pos (by omega), if_neg (by omega), if_neg (fun z => h2 z.2), if_pos h1, if_neg h2]
      refine ⟨_, Eq.trans ?_ (fin (p + S) (p + S) (by omega) (by omega) ((p : Int) + S) ((p : Int) + S) (by omega) (by omega)), rfl⟩
      walk_at "ev"
  · by_cases h2 : xs.length ≤ p + S
    · rw [if_neg (by omega), if_pos (by omega), if_neg (fun z => h1 z.1), if_neg h1, if_pos h2]
      refine ⟨_, Eq.trans ?_ (fin (p - S) (p - S) (by omega) (by omega) ((p : Int) - S) ((p : Int) - S) (by omega) (by omega)), rfl⟩
      walk_at "ev"
    · rw [if_neg (by omega), if_neg (by omega), if_neg (fun z => h1 z.1), if_neg h1, if_neg h2]
      refine ⟨_, Eq.trans ?_ (fin (p - S) (p + S) (by omega) (by omega) ((p : Int) - S) ((p : Int) + S) (by omega) (by omega)), rfl⟩
      walk_at "ev"
theorem turn_B {xs : List Int} {S n : Nat} {L : Lf} (hS : 0 < S) (hS2 : S ≤ 1000) (hl : xs.length ≤ 100000) (hL : okL L) (bx : ∀ i, Bits n (xs.getD i 0)) (hn : n ≤ 999000) (x0 x1 x6 : Option D) :
    ∃ x6', forS (itR rngS (consA (op2 mulD (op2 ixD (varE 5) (cE (.int 0))) (varE 2)) (consA (varE 4) (consA (op2 mulD (cE (.int 2)) (varE 2)) nilA)))) (tgN 6) (setS 3 (varE 6) (op2 addD (op2 ixD (varE 3) (varE 6)) (callF m_broadened (consA (varE 3) (consA (varE 6) (consA (varE 5) (consA (varE 2) nilA)))))))
      [x0, x1, some (.int S), some (.lst (xs.map D.int)), some (.int xs.length), some L.d, x6] = .nx [x0, x1, some (.int S), some (.lst ((lg 0 (dnB L) xs S L.h).map D.int)), some (.int xs.length), some L.d, x6'] := by
  have hLk := hL
  obtain ⟨h1, h2, h3, h4⟩ := hL
  have hL0 : L.d = .tup [.int L.h, .int L.l, .int L.r, .int L.a, .int L.s] := rfl
  have hi0 : ixD L.d (.int 0) = .ok (.int L.h) := by rw [hL0]; exact ix0_tup _ _
  simp only [forS, itR]
  walk_at "ev"
  rw [hi0]
  walk_at "ev"
  rw [mul2 (by omega) (by omega) (by omega) (by omega)]
  walk_at "ev"
  rw [mul2 (by omega) (by omega) (by omega) (by omega)]
  walk_at "ev"
  have hm : L.h * S ≤ 1 * S := Nat.mul_le_mul_right S h1
  have hm2 : ((L.h : Int) * (S : Int)) = ((L.h * S : Nat) : Int) := by rw [Int.natCast_mul]
  rw [hm2, rngS_pos (bnd_of (by omega) (by omega)) (bnd_of (by omega) (by omega)) (by omega) (by omega)]
  walk_at "ev"
  obtain ⟨q1, q2⟩ := rangeSize_spec (i := ((L.h * S : Nat) : Int)) (j := xs.length) (c := 2 * (S : Int)) (by omega)
  generalize (Builtin.Range.rangeSize ((L.h * S : Nat) : Int) xs.length (2 * (S : Int))).toNat = T at q1 q2
  have ep : ∀ t : Nat, ((L.h * S : Nat) : Int) + (t : Int) * (2 * (S : Int)) = (((L.h + 2 * t) * S : Nat) : Int) := fun t => by
    rw [Nat.add_mul, Int.natCast_add, Nat.mul_comm 2 t, Nat.mul_assoc, Int.natCast_mul t, Int.natCast_mul 2]
    rfl
  obtain ⟨ρ', e1, x6', e2⟩ := forL_go (tf := tgN 6) (b := setS 3 (varE 6) (op2 addD (op2 ixD (varE 3) (varE 6)) (callF m_broadened (consA (varE 3) (consA (varE 6) (consA (varE 5) (consA (varE 2) nilA)))))))
    (ds := rngC ((L.h * S : Nat) : Int) (2 * (S : Int)) T) (ρ := [x0, x1, some (.int S), some (.lst (xs.map D.int)), some (.int xs.length), some L.d, x6])
    (fun t ρ => ∃ x6, ρ = [x0, x1, some (.int S), some (.lst ((lgB 0 (dnB L) xs S L.h ((L.h + 2 * t) * S)).map D.int)), some (.int xs.length), some L.d, x6])
    ⟨x6, by rw [lgB_start hS (by rw [Nat.mul_zero, Nat.add_zero]; exact Nat.le_refl _) h1]⟩ (fun t d hd ρ hi => by
      obtain ⟨x6, rfl⟩ := hi
      obtain ⟨ht, hd⟩ := rngC_at hd
      have hp := q1 t ht
      rw [ep] at hp hd
      subst hd
      refine ⟨_, rfl, ?_⟩
      have hp' : (L.h + 2 * t) * S < xs.length := by omega
      have hnew := lg_step_new (z := (0 : Int)) (F := dnB L) (xs := xs) (t := t) hS h1
      have hset := lg_step_set (z := (0 : Int)) (F := dnB L) (xs := xs) (t := t) hS h1 hp'
      have hb := lgI_bits (F := dnB L) (S := S) (h := L.h) (b := (L.h + 2 * t) * S) (m := n + 68) (fun x u v => dnB_bits hLk) (by omega) bx
      rw [← hset, ← hnew]
      have hlen : (lgB 0 (dnB L) xs S L.h ((L.h + 2 * t) * S)).length = xs.length := lgB_length
      generalize lgB 0 (dnB L) xs S L.h ((L.h + 2 * t) * S) = ys at hb hlen
      generalize (L.h + 2 * t) * S = p at hp'
      show Go _ (setS 3 _ _ [x0, x1, some (.int S), some (.lst (ys.map D.int)), some (.int xs.length), some L.d, some (.int (p : Int))])
      obtain ⟨z, hz, hz2⟩ := broadened_ok (L := L) (p := p) (by omega) hS hb h2 h3 (by omega)
      rw [setS_ints (i := 3) (ns := ys) (k := (p : Int)) (v := lgNew 0 (dnB L) ys S p) (by
        walk_at "ev"
        rw [row_at rfl (by omega), hz]
        walk_at "ev"
        rw [hz2]) rfl (by walk_at "ev") (by omega) (by omega)]
      rw [Int.toNat_natCast]
      exact ⟨_, rfl⟩)
  refine ⟨x6', ?_⟩
  rw [e1, e2, rngC_length, lgB_end]
  rw [ep] at q2
  omega
def dnBL (S : Nat) (xs : List Int) (Ls : List Lf) : List Int := Ls.foldl (fun ys L => lg 0 (dnB L) ys S L.h) xs
theorem dnBL_length (S : Nat) : ∀ (Ls : List Lf) (xs : List Int), (dnBL S xs Ls).length = xs.length
  | [], _ => rfl
  | L :: Ls, xs => (dnBL_length S Ls (lg 0 (dnB L) xs S L.h)).trans lg_length
theorem lgB_bits {L : Lf} (hL : okL L) {xs : List Int} {S n : Nat} (bx : ∀ i, Bits n (xs.getD i 0)) (i : Nat) : Bits (n + 68) ((lg 0 (dnB L) xs S L.h).getD i 0) := lgI_bits (F := dnB L) (fun x u v => dnB_bits hL) (by omega) bx i
theorem dnBL_bits (S : Nat) : ∀ (Ls : List Lf) (xs : List Int) (n : Nat), (∀ L ∈ Ls, okL L) → (∀ i, Bits n (xs.getD i 0)) → ∀ i, Bits (n + 68 * Ls.length) ((dnBL S xs Ls).getD i 0)
  | [], _, _, _, bx, i => bx i
  | L :: Ls, xs, n, hL, bx, i => by
    have h := dnBL_bits S Ls (lg 0 (dnB L) xs S L.h) (n + 68) (fun L' h => hL L' (List.mem_cons_of_mem _ h)) (fun i => lgB_bits (hL L List.mem_cons_self) bx i) i
    rw [List.length_cons]
    exact h.mono (by omega)
theorem dnBL_snoc (S : Nat) (xs : List Int) (Ls : List Lf) (L : Lf) : dnBL S xs (Ls ++ [L]) = lg 0 (dnB L) (dnBL S xs Ls) S L.h := by
  unfold dnBL
  rw [List.foldl_append]
  rfl
theorem loop_B {S : Nat} (hS : 0 < S) (hS2 : S ≤ 1000) (x0 x1 : Option D) :
    ∀ (Ls : List Lf) (xs : List Int) (n m : Nat) (x5 x6 : Option D), xs.length = m → m ≤ 100000 → (∀ L ∈ Ls, okL L) → (∀ i, Bits n (xs.getD i 0)) → n + 68 * Ls.length ≤ 999000 →
      ∃ x5' x6', forL (tgN 5) (forS (itR rngS (consA (op2 mulD (op2 ixD (varE 5) (cE (.int 0))) (varE 2)) (consA (varE 4) (consA (op2 mulD (cE (.int 2)) (varE 2)) nilA)))) (tgN 6) (setS 3 (varE 6) (op2 addD (op2 ixD (varE 3) (varE 6)) (callF m_broadened (consA (varE 3) (consA (varE 6) (consA (varE 5) (consA (varE 2) nilA)))))))) (Ls.map Lf.d)
      [x0, x1, some (.int S), some (.lst (xs.map D.int)), some (.int m), x5, x6] = .nx [x0, x1, some (.int S), some (.lst ((dnBL S xs Ls).map D.int)), some (.int m), x5', x6']
  | [], xs, n, m, x5, x6, _, _, _, _, _ => ⟨x5, x6, rfl⟩
  | L :: Ls, xs, n, m, x5, x6, e, hm, hL, bx, hn => by
    rw [List.length_cons] at hn
    subst e
    obtain ⟨x6', e1⟩ := turn_B hS hS2 hm (hL L List.mem_cons_self) bx (by omega) x0 x1 x6
    obtain ⟨x5'', x6'', e2⟩ := loop_B hS hS2 x0 x1 Ls (lg 0 (dnB L) xs S L.h) (n + 68) xs.length (some L.d) x6' lg_length hm (fun L' h => hL L' (List.mem_cons_of_mem _ h)) (fun i => lgB_bits (hL L List.mem_cons_self) bx i) (by omega)
    refine ⟨x5'', x6'', ?_⟩
    rw [List.map_cons, forL]
    simp only [tgN, List.set_cons_succ, List.set_cons_zero]
    rw [e1]
    exact e2
theorem lowered_breadths_ok {S n : Nat} {xs : List Int} {Ls : List Lf} (hS : 0 < S) (hS2 : S ≤ 1000) (hl : xs.length ≤ 100000) (hL : ∀ L ∈ Ls, okL L) (bx : ∀ i, Bits n (xs.getD i 0)) (hn : n + 68 * Ls.length ≤ 999000) :
    m_lowered_breadths [.lst (xs.map D.int), .tup (Ls.map Lf.d), .int S] = .ok (.lst ((dnBL S xs Ls.reverse).map D.int)) := by
  rw [r_lowered_breadths]
  simp only [b_lowered_breadths]
  obtain ⟨x5, x6, e⟩ := loop_B hS hS2 (some (.lst (xs.map D.int))) (some (.tup (Ls.map Lf.d))) Ls.reverse xs n xs.length none none rfl hl (fun L h => hL L (List.mem_reverse.mp h)) bx (by rw [List.length_reverse]; exact hn)
  walk_at "ev"
  rw [listD_ints]
  walk_at "ev"
  rw [forS]
  simp only [itV]
  walk_at "ev"
  rw [revR]
  walk_at "ev"
  rw [← List.map_reverse, e]
  walk_at "ev"
def gPi (xs : List Int) : D → D
  | .int j => .int (xs.getD j.toNat 0)
  | x => x
theorem gPi_map (xs : List Int) (S P : Nat) : (rngC 0 S P).map (gPi xs) = (lgParts 0 xs S P).map D.int := by
  unfold rngC lgParts
  rw [List.map_map, List.map_map]
  refine List.map_congr_left fun k _ => ?_
  show D.int (xs.getD ((0 + (k : Int) * (S : Int)).toNat) 0) = D.int (xs.getD (k * S) 0)
  rw [Int.zero_add, ← Int.natCast_mul, Int.toNat_natCast]
theorem partsI_bits {xs : List Int} {S P n : Nat} (bx : ∀ i, Bits n (xs.getD i 0)) (k : Nat) : Bits n ((lgParts 0 xs S P).getD k 0) := by
  by_cases h : k < P
  · rw [lgParts_getD h]
    exact bx _
  · rw [lg_none (by rw [lgParts_length]; omega)]
    have := bx xs.length
    rwa [lg_none (Nat.le_refl _)] at this
theorem power_loop11 (s : Nat) (hs : s ≤ 400) (x0 x1 x2 x3 x4 x6 x7 x8 x9 x10 : Option D) : ∃ x6', forL (tgN 6) (asgS 5 (op2 mulD (varE 5) (cE (.int 2)))) (rngL 0 s) [x0, x1, x2, x3, x4, some (.int 1), x6, x7, x8, x9, x10] = .nx [x0, x1, x2, x3, x4, some (.int (2 ^ s)), x6', x7, x8, x9, x10] := by
  obtain ⟨ρ', e1, x, e2⟩ := forL_go (tf := tgN 6) (b := asgS 5 (op2 mulD (varE 5) (cE (.int 2)))) (fun i ρ => ∃ x6, ρ = [x0, x1, x2, x3, x4, some (.int (2 ^ i)), x6, x7, x8, x9, x10]) (ds := rngL 0 s) (ρ := [x0, x1, x2, x3, x4, some (.int 1), x6, x7, x8, x9, x10]) ⟨x6, rfl⟩ (fun i d hd ρ hi => by
    obtain ⟨x, rfl⟩ := hi
    obtain ⟨hk, _⟩ := rngL_at hd
    refine ⟨_, rfl, ?_⟩
    have hm : mulOk (2 ^ i) 2 := (Bits.pow2 i).ok (Bits.of64 (by decide) (by decide)) (by omega)
    show Go _ (asgS 5 _ [x0, x1, x2, x3, x4, some (.int (2 ^ i)), some d, x7, x8, x9, x10])
    walk_at "ev"
    rw [mulD_ok hm]
    walk_at "ev"
    exact ⟨some d, by rw [Int.pow_succ]⟩)
  rw [rngL_length] at e2
  exact ⟨x, by rw [e1, e2]⟩
theorem undoneB_ok {S n : Nat} {xs : List Int} {L : Lf} (hS : 0 < S) (hS2 : S ≤ 1000) (hl : xs.length ≤ 80) (bx : ∀ i, Bits n (xs.getD i 0)) (hn : n ≤ 900000) (hL : okL L) (hs8 : L.s ≤ 60) :
    m_law_undone [.lst (xs.map D.int), L.d, .int S] = .ok (.lst ((lg 0 (dnB L) xs S L.h).map D.int)) := by
  have hLk := hL
  obtain ⟨h1, h2, h3, h4⟩ := hL
  have hL0 : L.d = .tup [.int L.h, .int L.l, .int L.r, .int L.a, .int L.s] := rfl
  have i0 : ixD L.d (.int 0) = .ok (.int L.h) := by rw [hL0]; exact ix0_tup _ _
  have i1 : ixD L.d (.int 1) = .ok (.int L.l) := by rw [hL0]; exact ix1_tup _ _ _
  have i2 : ixD L.d (.int 2) = .ok (.int L.r) := by rw [hL0]; exact ix2_tup _ _ _ _
  have i4 : ixD L.d (.int 4) = .ok (.int L.s) := by rw [hL0]; exact ix4_tup _ _ _ _ _ _
  rw [r_law_undone]
  simp only [b_law_undone]
  walk_at "ev"
  rw [listD_ints]
  walk_at "ev"
  obtain ⟨q1, q2⟩ := rangeSize_spec (i := 0) (j := xs.length) (c := (S : Int)) (by omega)
  have er : rngS [.int 0, .int xs.length, .int S] = .ok (rngC 0 S (Builtin.Range.rangeSize 0 xs.length S).toNat) := rngS_pos (bnd_of (by omega) (by omega)) (bnd_of (by omega) (by omega)) (by omega) (by omega)
  generalize (Builtin.Range.rangeSize 0 xs.length (S : Int)).toNat = P at q1 q2 er
  have u1 : ∀ t, t < P → t * S < xs.length := fun t ht => by
    have := q1 t ht
    rw [← Int.natCast_mul] at this
    omega
  have u2 : xs.length ≤ P * S := by
    rw [← Int.natCast_mul] at q2
    omega
  have hP : P ≤ 80 := by
    by_cases h : P = 0
    · omega
    · have := u1 (P - 1) (by omega)
      have := Nat.mul_le_mul_left (P - 1) hS
      omega
  rw [lcE_map (g := gPi xs) (ds := rngC 0 S P) (by
    unfold itR; walk_at "ev"; exact er) (le_line1000 (by rw [rngC_length]; omega)) (by
    intro d hd
    obtain ⟨j, hj, hd⟩ := rngC_mem hd
    subst hd
    have hj := u1 j hj
    refine ⟨_, rfl, ?_⟩
    show imm _ [some (.lst (xs.map D.int)), some L.d, some (.int S), some (.lst (xs.map D.int)), none, none, none, none, none, none, some (.int (0 + (j : Int) * (S : Int)))] = _
    walk_at "ev"
    have e : 0 + (j : Int) * (S : Int) = ((j * S : Nat) : Int) := by rw [Int.zero_add, Int.natCast_mul]
    rw [e, row_at rfl hj]
    walk_at "ev"
    simp only [gPi]
    rw [Int.toNat_natCast])]
  rw [gPi_map]
  walk_at "ev"
  simp only [forS, itR]
  walk_at "ev"
  rw [i4]
  walk_at "ev"
  rw [rng1_ok (bnd_of (by omega) (by omega))]
  walk_at "ev"
  rw [Int.toNat_natCast]
  obtain ⟨x6, e6⟩ := power_loop11 L.s (by omega) (some (.lst (xs.map D.int))) (some L.d) (some (.int S)) (some (.lst (xs.map D.int))) (some (.lst ((lgParts 0 xs S P).map D.int))) none none none none none
  rw [e6]
  walk_at "ev"
  simp only [forS, itR]
  walk_at "ev"
  rw [i0]
  walk_at "ev"
  rw [lgParts_length, rngS_pos (bnd_of (by omega) (by omega)) (bnd_of (by omega) (by omega)) (by decide) (by decide)]
  walk_at "ev"
  obtain ⟨v1, v2⟩ := rangeSize_spec (i := (L.h : Int)) (j := (P : Int)) (c := 2) (by decide)
  generalize (Builtin.Range.rangeSize (L.h : Int) (P : Int) 2).toNat = T at v1 v2
  by_cases hP1 : 1 < P
  · refine body_forI (fun t ρ => ∃ x6 x7 x8 x9, ρ = [some (.lst (xs.map D.int)), some L.d, some (.int S), some (.lst ((lgB 0 (dnB L) xs S L.h ((L.h + 2 * t) * S)).map D.int)), some (.lst ((lgParts 0 xs S P).map D.int)), some (.int (2 ^ L.s)), x6, x7, x8, x9, none])
      ⟨x6, none, none, none, by rw [lgB_start hS (by rw [Nat.mul_zero, Nat.add_zero]; exact Nat.le_refl _) h1]⟩ (fun t d hd ρ hi => ?_) (fun ρ ⟨y6, y7, y8, y9, hρ⟩ => ?_)
    · obtain ⟨y6, y7, y8, y9, rfl⟩ := hi
      obtain ⟨ht, hd⟩ := rngC_at hd
      have hk := v1 t ht
      have ek : (L.h : Int) + (t : Int) * 2 = ((L.h + 2 * t : Nat) : Int) := by omega
      rw [ek] at hk hd
      have hst := lg_step_set (z := (0 : Int)) (F := dnB L) (xs := xs) (t := t) hS h1
      generalize hk2 : L.h + 2 * t = k at hk hd hst
      have hk' : k < P := by omega
      have hkS := u1 k hk'
      subst hd
      refine ⟨_, rfl, ?_⟩
      show Go _ (ifS _ _ _ [some (.lst (xs.map D.int)), some L.d, some (.int S), some (.lst ((lgB 0 (dnB L) xs S L.h (k * S)).map D.int)), some (.lst ((lgParts 0 xs S P).map D.int)), some (.int (2 ^ L.s)), some (.int (k : Int)), y7, y8, y9, none])
      have hp2 : (0 : Int) < 2 ^ L.s := Int.pow_pos (by decide)
      have hp3 : (2 : Int) ^ L.s < 18446744073709551616 := by
        have := (Bits.pow2 L.s).lt
        have h9 : (2 : Nat) ^ (L.s + 1) ≤ 2 ^ 61 := Nat.pow_le_pow_right (by decide) (by omega)
        have h10 : (2 : Nat) ^ 61 = 2305843009213693952 := by decide
        omega
      have em : maxI ((k : Int) - 1) (1 - (k : Int)) = (((if k = 0 then 1 else k - 1 : Nat)) : Int) := by
        unfold maxI
        split <;> split <;> omega
      have el : (if k = 0 then 1 else k - 1) < P := by split <;> omega
      have hadd := lgNew_k (z := (0 : Int)) (F := dnB L) hS hk' hP1 u1 u2
      generalize (if k = 0 then 1 else k - 1) = lf at em el hadd
      have fin : ∀ rv : Int, Bits n rv → lgNew 0 (dnB L) xs S (k * S) = dnB L ((lgParts 0 xs S P).getD k 0) ((lgParts 0 xs S P).getD lf 0) rv →
          Go (fun ρ => ∃ x6 x7 x8 x9, ρ = [some (.lst (xs.map D.int)), some L.d, some (.int S), some (.lst ((lgB 0 (dnB L) xs S L.h ((L.h + 2 * (t + 1)) * S)).map D.int)), some (.lst ((lgParts 0 xs S P).map D.int)), some (.int (2 ^ L.s)), x6, x7, x8, x9, none])
            ((seqS (asgS 9 (op2 addD (op2 mulD (callB absD (consA (op2 ixD (varE 1) (cE (.int 1))) nilA)) (varE 7)) (op2 mulD (callB absD (consA (op2 ixD (varE 1) (cE (.int 2))) nilA)) (varE 8))))
    (setS 3 (op2 mulD (varE 6) (varE 2)) (op2 addD (op2 ixD (varE 4) (varE 6)) (op2 fdivD (op2 subD (op2 addD (varE 9) (varE 5)) (cE (.int 1))) (varE 5)))))
              [some (.lst (xs.map D.int)), some L.d, some (.int S), some (.lst ((lgB 0 (dnB L) xs S L.h (k * S)).map D.int)), some (.lst ((lgParts 0 xs S P).map D.int)), some (.int (2 ^ L.s)), some (.int (k : Int)), some (.int ((lgParts 0 xs S P).getD lf 0)), some (.int rv), y9, none]) := fun rv brv hv => by
        have blf := partsI_bits (S := S) (P := P) bx lf
        generalize (lgParts 0 xs S P).getD lf 0 = lv at blf hv
        walk_at "ev"
        rw [i1]
        walk_at "ev"
        rw [show (if L.l < 0 then -L.l else L.l) = ab L.l from rfl, mulD_ok ((ab_bits h2).ok blf (by omega))]
        walk_at "ev"
        rw [i2]
        walk_at "ev"
        rw [show (if L.r < 0 then -L.r else L.r) = ab L.r from rfl, mulD_ok ((ab_bits h3).ok brv (by omega))]
        walk_at "ev"
        rw [setS_ints (ns := lgB 0 (dnB L) xs S L.h (k * S)) (k := ((k * S : Nat) : Int)) (v := lgNew 0 (dnB L) xs S (k * S)) (by
          walk_at "ev"
          rw [row_at rfl (by rw [lgParts_length]; exact hk')]
          walk_at "ev"
          rw [fdivD_pos hp2 hp3]
          walk_at "ev"
          rw [hv]
          unfold dnB
          rw [up_div _ _ hp2]) rfl (by
          walk_at "ev"
          rw [mul2 (by omega) (by omega) (by omega) (by omega), Int.natCast_mul]) (by omega) (by rw [lgB_length]; omega)]
        rw [Int.toNat_natCast, hst hkS]
        exact ⟨_, _, _, _, rfl⟩
      walk_at "ev"
      rw [lgParts_length, if_pos (by omega), em, row_at rfl (by rw [lgParts_length]; exact el)]
      walk_at "ev"
      rw [lgParts_length]
      by_cases hq : k + 1 < P
      · rw [if_pos hq] at hadd
        rw [if_pos (by omega), row_at (i := k + 1) (by omega) (by rw [lgParts_length]; exact hq)]
        walk_at "ev"
        refine Eq.mp ?_ (fin _ (partsI_bits bx (k + 1)) hadd)
        walk_at "ev"
      · rw [if_neg hq] at hadd
        rw [if_neg (by omega)]
        refine Eq.mp ?_ (fin _ (partsI_bits bx lf) hadd)
        walk_at "ev"
    · rw [rngC_length] at hρ
      subst hρ
      walk_at "ev"
      rw [lgB_end]
      have e9 : P ≤ L.h + 2 * T := by omega
      have := Nat.mul_le_mul_right S e9
      omega
  · rw [lg_short (by
      have := Nat.mul_le_mul_right S (show P ≤ 1 by omega)
      omega)]
    refine body_forI (fun t ρ => ∃ x6, ρ = [some (.lst (xs.map D.int)), some L.d, some (.int S), some (.lst (xs.map D.int)), some (.lst ((lgParts 0 xs S P).map D.int)), some (.int (2 ^ L.s)), x6, none, none, none, none])
      ⟨x6, rfl⟩ (fun t d hd ρ hi => ?_) (fun ρ ⟨y6, hρ⟩ => by subst hρ; rfl)
    obtain ⟨y6, rfl⟩ := hi
    refine ⟨_, rfl, ?_⟩
    show Go _ (ifS _ _ _ [some (.lst (xs.map D.int)), some L.d, some (.int S), some (.lst (xs.map D.int)), some (.lst ((lgParts 0 xs S P).map D.int)), some (.int (2 ^ L.s)), some d, none, none, none, none])
    walk_at "ev"
    rw [lgParts_length, if_neg (by omega)]
    exact ⟨_, rfl⟩
/-- a span no broader than a number -/
def BW (p : Int × Int) (b : Int) : Prop := p.1 ≤ p.2 ∧ p.2 - p.1 ≤ b
theorem mul_W {a b w : Int} (m : Int) (h2 : a ≤ b) (h3 : b - a ≤ w) : minI (a * m) (b * m) ≤ maxI (a * m) (b * m) ∧ maxI (a * m) (b * m) - minI (a * m) (b * m) ≤ ab m * w := by
  unfold minI maxI ab
  by_cases h : 0 ≤ m
  · have k1 := Int.mul_le_mul_of_nonneg_right h2 h
    have k2 := Int.mul_le_mul_of_nonneg_right h3 h
    rw [Int.sub_mul] at k2
    have ha : (if m < 0 then -m else m) = m := if_neg (by omega)
    rw [ha, Int.mul_comm m w]
    refine ⟨?_, ?_⟩ <;> repeat' split
    all_goals omega
  · have k1 := Int.mul_le_mul_of_nonpos_right h2 (show m ≤ 0 by omega)
    have k2 := Int.mul_le_mul_of_nonpos_right h3 (show m ≤ 0 by omega)
    rw [Int.sub_mul] at k2
    have ha : (if m < 0 then -m else m) * w = -(w * m) := by
      by_cases h0 : m = 0
      · subst h0; simp
      · rw [if_pos (by omega), Int.neg_mul, Int.mul_comm m w]
    rw [ha]
    refine ⟨?_, ?_⟩ <;> repeat' split
    all_goals omega
theorem dn_W (L : Lf) (x u v : Int × Int) (x' u' v' : Int) (hx : BW x x') (hu : BW u u') (hv : BW v v') : BW (dnF L x u v) (dnB L x' u' v') := by
  obtain ⟨a1, a2⟩ := hx
  obtain ⟨b1, b2⟩ := mul_W L.l hu.1 hu.2
  obtain ⟨c1, c2⟩ := mul_W L.r hv.1 hv.2
  have hp : (0 : Int) < 2 ^ L.s := Int.pow_pos (by decide)
  unfold dnF dnB tk BW
  simp only
  have d1 := Int.ediv_le_ediv hp (show minI (u.1 * L.l) (u.2 * L.l) + minI (v.1 * L.r) (v.2 * L.r) + L.a ≤ maxI (u.1 * L.l) (u.2 * L.l) + maxI (v.1 * L.r) (v.2 * L.r) + L.a by omega)
  have d2 : (maxI (u.1 * L.l) (u.2 * L.l) + maxI (v.1 * L.r) (v.2 * L.r) + L.a) / 2 ^ L.s ≤ (minI (u.1 * L.l) (u.2 * L.l) + minI (v.1 * L.r) (v.2 * L.r) + L.a) / 2 ^ L.s + (0 - (0 - (ab L.l * u' + ab L.r * v')) / 2 ^ L.s) := by
    have e1 : maxI (u.1 * L.l) (u.2 * L.l) + maxI (v.1 * L.r) (v.2 * L.r) + L.a ≤ (minI (u.1 * L.l) (u.2 * L.l) + minI (v.1 * L.r) (v.2 * L.r) + L.a) + (ab L.l * u' + ab L.r * v') := by omega
    generalize minI (u.1 * L.l) (u.2 * L.l) + minI (v.1 * L.r) (v.2 * L.r) + L.a = m1 at *
    generalize maxI (u.1 * L.l) (u.2 * L.l) + maxI (v.1 * L.r) (v.2 * L.r) + L.a = m2 at *
    generalize ab L.l * u' + ab L.r * v' = w at *
    have e2 := Int.mul_ediv_self_le (x := 0 - w) (k := 2 ^ L.s) (by omega)
    have e3 := Int.ediv_le_ediv hp (show m2 ≤ m1 + (- ((0 - w) / 2 ^ L.s)) * 2 ^ L.s by rw [Int.neg_mul, Int.mul_comm]; omega)
    rw [Int.add_mul_ediv_right _ _ (by omega)] at e3
    omega
  omega
theorem all_W (S : Nat) : ∀ (Ls : List Lf) (xs : List (Int × Int)) (zs : List Int), Rel BW (0, 0) 0 xs zs → Rel BW (0, 0) 0 (dnL S xs Ls) (dnBL S zs Ls)
  | [], _, _, h => h
  | L :: Ls, xs, zs, h => all_W S Ls _ _ (lg_rel (dn_W L) h)
theorem pick3 (a b c z : Int) : ixD (.lst [.int a, .int b, .int c]) (.int (z % 3)) = .ok (.int (if z % 3 = 0 then a else if z % 3 = 1 then b else c)) := by
  have h : z % 3 = 0 ∨ z % 3 = 1 ∨ z % 3 = 2 := by omega
  rcases h with h | h | h <;> rw [h]
  · exact ix0_lst _ _
  · exact ix1_lst _ _ _
  · exact ix2_lst _ _ _ _
theorem thinner_ok {xs : List (Int × Int)} (hl : xs.length ≤ 80) (hx : ∀ p ∈ xs, okS p) (c : Int) : ∃ ys : List (Int × Int), m_law_thinner [.lst (xs.map sp), .int c] = .ok (.lst (ys.map sp)) ∧ Rel N2 (0, 0) (0, 0) ys xs := by
  rw [r_law_thinner]
  simp only [b_law_thinner]
  walk_at "ev"
  rw [forS]
  simp only [itV]
  walk_at "ev"
  rw [itemsR]
  walk_at "ev"
  refine body_forE (fun t ρ => ∃ (ys : List (Int × Int)) (num : Int) (x4 x5 x6 : Option D), ys.length = t ∧ (∀ i, i < t → N2 (ys.getD i (0, 0)) (xs.getD i (0, 0))) ∧ 0 ≤ num ∧ num < 2147483647 ∧ ρ = [some (.lst (xs.map sp)), some (.int c), some (.lst (ys.map sp)), some (.int num), x4, x5, x6])
    ⟨[], _, none, none, none, rfl, (fun i h => absurd h (Nat.not_lt_zero i)), by omega, by omega, rfl⟩ (fun t d hd ρ hi => ?_) (fun ρ ⟨ys, num, x4, x5, x6, w1, w2, w3, w4, hρ⟩ => ?_)
  · obtain ⟨ys, num, x4, x5, x6, w1, w2, w3, w4, rfl⟩ := hi
    rw [List.getElem?_map] at hd
    obtain ⟨p, hp, rfl⟩ := Option.map_eq_some_iff.mp hd
    refine ⟨_, rfl, ?_⟩
    show Go _ (seqS _ _ [some (.lst (xs.map sp)), some (.int c), some (.lst (ys.map sp)), some (.int num), some (.int p.1), some (.int p.2), x6])
    walk_at "ev"
    have ht : t < xs.length := (List.getElem?_eq_some_iff.mp hp).1
    have hg : xs.getD t (0, 0) = p := by rw [List.getD_eq_getElem?_getD, hp]; rfl
    obtain ⟨o1, o2⟩ := hx p (List.mem_of_getElem? hp)
    rw [mulD_ok ((Bits.of64 (by omega) (by omega)).ok (Bits.of64 (by omega) (by omega)) (by decide)), mulD_ok ((Bits.of64 (by decide) (by decide)).ok (Bits.of64 (by omega) (by omega)) (by decide))]
    walk_at "ev"
    have a1 := Int.emod_nonneg (num * num + 40014 * num + (ys.length : Int)) (show (2147483647 : Int) ≠ 0 by decide)
    have a2 := Int.emod_lt_of_pos (num * num + 40014 * num + (ys.length : Int)) (show (0 : Int) < 2147483647 by decide)
    generalize (num * num + 40014 * num + (ys.length : Int)) % 2147483647 = q at a1 a2
    have hw : 0 < p.2 - p.1 + 1 := by omega
    rw [modD_pos hw]
    walk_at "ev"
    have b1 := Int.emod_nonneg (q / 3) (Int.ne_of_gt hw)
    have b2 := Int.emod_lt_of_pos (q / 3) hw
    generalize q / 3 % (p.2 - p.1 + 1) = m at b1 b2
    rw [pick3]
    walk_at "ev"
    have hf : 0 ≤ (if q % 3 = 0 then (0 : Int) else if q % 3 = 1 then m else p.2 - p.1) ∧ (if q % 3 = 0 then (0 : Int) else if q % 3 = 1 then m else p.2 - p.1) ≤ p.2 - p.1 := by split <;> (try split) <;> omega
    generalize (if q % 3 = 0 then (0 : Int) else if q % 3 = 1 then m else p.2 - p.1) = f at hf
    rw [appS_map (f := sp) (xs := ys) (v := (p.1, p.2 - f)) (by walk_at "ev"; rfl) rfl (by omega)]
    refine ⟨ys ++ [(p.1, p.2 - f)], q, _, _, _, by rw [List.length_append, w1]; rfl, fun i hi => ?_, a1, a2, rfl⟩
    rw [List.getD_eq_getElem?_getD (l := ys ++ _)]
    by_cases hq : i < t
    · rw [List.getElem?_append_left (by omega), ← List.getD_eq_getElem?_getD]
      exact w2 i hq
    · have : i = t := by omega
      subst this
      rw [List.getElem?_append_right (by omega), hg, w1, Nat.sub_self]
      exact ⟨Int.le_refl _, by show p.1 ≤ p.2 - f; omega, by show p.2 - f ≤ p.2; omega⟩
  · subst hρ
    rw [List.length_map] at w1 w2
    exact ⟨ys, rfl, w1, fun i hi => w2 i (by omega)⟩
theorem same_ints (xs : List Int) (hl : xs.length ≤ 100000) : m_law_same [.lst (xs.map D.int), .lst (xs.map D.int)] = .ok (.bl true) := by
  rw [r_law_same]
  simp only [b_law_same]
  walk_at "ev"
  simp only [forS, itR]
  walk_at "ev"
  rw [rng1_ok (bnd_of (by omega) (by omega))]
  walk_at "ev"
  refine body_forI (fun _ ρ => ∃ x, ρ = [some (.lst (xs.map D.int)), some (.lst (xs.map D.int)), x]) ⟨none, rfl⟩ (fun i d hd ρ hi => ?_) (fun ρ ⟨x, hρ⟩ => by subst hρ; rfl)
  obtain ⟨x, rfl⟩ := hi
  obtain ⟨h1, h2⟩ := rngL_at hd
  subst h2
  refine ⟨_, rfl, ?_⟩
  show Go _ (ifS _ _ _ [some (.lst (xs.map D.int)), some (.lst (xs.map D.int)), some (.int (0 + (i : Int)))])
  walk_at "ev"
  rw [row_at (i := i) (by omega) (by omega)]
  walk_at "ev"
  rw [whole_int]
  walk_at "ev"
  exact ⟨_, rfl⟩
def subP : D → D
  | .tup [.int x, .int y] => .int (y - x)
  | x => x
theorem alias65 (x0 x1 x2 x3 x4 x6 x7 x8 x9 x10 x11 x12 : Option D) (d : D) : aliasS 6 5 [x0, x1, x2, x3, x4, some d, x6, x7, x8, x9, x10, x11, x12] = .nx [x0, x1, x2, x3, x4, some d, some d, x7, x8, x9, x10, x11, x12] := rfl
theorem law_true : ∀ ns, Scr ns → m_law [.lst (ns.map D.int)] = .ok (.bl true) := by
  intro ns hs
  have hl : ns.length ≤ 63 := hs.1
  rw [r_law]
  simp only [b_law]
  walk_at "ev"
  obtain ⟨Ls, eL, okl⟩ := ladder_ok hl
  rw [eL]
  walk_at "ev"
  rw [cell_at _ _ (by decide)]
  walk_at "ev"
  obtain ⟨S, eS, S1, S2⟩ := stride (cell ns 7)
  rw [eS]
  walk_at "ev"
  obtain ⟨xs, ex, r1, r2, r3⟩ := spans_ok hl (cell ns 7 / 224)
  rw [ex]
  walk_at "ev"
  obtain ⟨ys, ey, hy⟩ := thinner_ok r2 r3 (cell ns 7 / 7)
  have hyl := hy.1
  obtain ⟨l1, l23⟩ := okl
  have l2 : ∀ L ∈ Ls, okL L := fun L h => (l23 L h).1
  have l2r : ∀ L ∈ Ls.reverse, okL L := fun L h => l2 L (List.mem_reverse.mp h)
  have l3 : ∀ L ∈ Ls, L.s ≤ 60 := fun L h => (l23 L h).2
  have oy := okS_in hy r3
  have by' := bits_of2 (n := 210) (fun p hp => (oy p hp).2) (by decide)
  rw [lcE_map (g := subP) (ds := xs.map sp) rfl (le_line1000 (by rw [List.length_map]; omega)) (by
    intro d hd
    obtain ⟨p, _, rfl⟩ := List.mem_map.mp hd
    refine ⟨_, rfl, ?_⟩
    show op2 subD _ _ [_, _, _, _, _, _, _, _, _, _, _, some (.int p.1), some (.int p.2)] = _
    walk_at "ev"
    rfl)]
  walk_at "ev"
  rw [show (xs.map sp).map subP = (xs.map fun p => p.2 - p.1).map D.int by rw [List.map_map, List.map_map]; rfl]
  have bz : ∀ i, Bits 211 ((xs.map fun p => p.2 - p.1).getD i 0) := fun i => by
    rw [List.getD_eq_getElem?_getD, List.getElem?_map]
    by_cases hi : i < xs.length
    · rw [List.getElem?_eq_getElem hi]
      have := (r3 _ (List.getElem_mem hi)).2
      exact this.b.sub this.a
    · rw [List.getElem?_eq_none (by omega)]
      exact ⟨by decide⟩
  have hrW : Rel BW (0, 0) 0 ys (xs.map fun p => p.2 - p.1) := ⟨by rw [List.length_map]; exact hyl, fun i hi => by
    have k := hy.2 i hi
    rw [List.getD_eq_getElem?_getD (l := xs.map _), List.getElem?_map]
    rw [List.getD_eq_getElem?_getD (l := xs)] at k
    rw [List.getElem?_eq_getElem (show i < xs.length by omega)] at k ⊢
    obtain ⟨k1, k2, k3⟩ := k
    exact ⟨k2, by show _ - _ ≤ _; simp only [Option.getD_some, Option.map_some] at *; omega⟩⟩
  have hz : (xs.map fun p => p.2 - p.1).length = xs.length := List.length_map _
  generalize (xs.map fun p => p.2 - p.1) = zs at *
  rw [alias65]
  walk_at "ev"
  simp only [forS, itR]
  walk_at "ev"
  rw [rng1_ok (bnd_of (by omega) (by omega))]
  walk_at "ev"
  have hdb := lowered_breadths_ok (S := S) (xs := zs) (Ls := Ls) S1 (by omega) (by omega) l2 bz (by omega)
  have hdy := lowered_spans_ok (S := S) (xs := ys) (Ls := Ls) S1 (by omega) (by omega) l2 by' (by omega)
  refine body_forI (fun t ρ => ∃ x7, ρ = [some (.lst (ns.map D.int)), some (.tup (Ls.map Lf.d)), some (.int (cell ns 7)), some (.int S), some (.lst (xs.map sp)), some (.lst (zs.map D.int)), some (.lst ((dnBL S zs (Ls.reverse.take t)).map D.int)), x7, none, none, none, none, none]) ⟨none, rfl⟩ (fun t d hd ρ hi => ?_) (fun ρ ⟨x7, hρ⟩ => ?_)
  · obtain ⟨x7, rfl⟩ := hi
    obtain ⟨ht, rfl⟩ := rngL_at hd
    have ht : t < Ls.length := by omega
    refine ⟨_, rfl, ?_⟩
    show Go _ (asgS 6 _ [some (.lst (ns.map D.int)), some (.tup (Ls.map Lf.d)), some (.int (cell ns 7)), some (.int S), some (.lst (xs.map sp)), some (.lst (zs.map D.int)), some (.lst ((dnBL S zs (Ls.reverse.take t)).map D.int)), some (.int (0 + (t : Int))), none, none, none, none, none])
    have hr : t < Ls.reverse.length := by rw [List.length_reverse]; exact ht
    have ei : ixD (.tup (Ls.map Lf.d)) (.int ((Ls.length : Int) - 1 - (0 + (t : Int)))) = .ok Ls.reverse[t].d := by
      refine ixD_tup (by omega) ?_
      rw [List.getElem?_map, List.getElem_reverse, show ((Ls.length : Int) - 1 - (0 + (t : Int))).toNat = Ls.length - 1 - t by omega, List.getElem?_eq_getElem (by omega)]
      rfl
    have okl : okL Ls.reverse[t] := l2r _ (List.getElem_mem hr)
    have hs8 : Ls.reverse[t].s ≤ 60 := l3 _ (List.mem_reverse.mp (List.getElem_mem hr))
    have et : Ls.reverse.take (t + 1) = Ls.reverse.take t ++ [Ls.reverse[t]] := (List.take_append_getElem hr).symm
    rw [et, dnBL_snoc]
    generalize Ls.reverse[t] = L at ei okl hs8
    have hb := dnBL_bits S (Ls.reverse.take t) zs 211 (fun L' h => l2r L' (List.mem_of_mem_take h)) bz
    have hl3 : (dnBL S zs (Ls.reverse.take t)).length ≤ 80 := by rw [dnBL_length]; omega
    have hl4 : (Ls.reverse.take t).length ≤ 10 := by rw [List.length_take, List.length_reverse]; omega
    walk_at "ev"
    rw [ei]
    walk_at "ev"
    rw [undoneB_ok S1 (by omega) hl3 hb (by omega) okl hs8]
    walk_at "ev"
    exact ⟨_, rfl⟩
  rw [rngL_length, Int.toNat_natCast, List.take_of_length_le (by rw [List.length_reverse]; exact Nat.le_refl _)] at hρ
  subst hρ
  have hW := all_W S Ls.reverse ys zs hrW
  have e1 := dnBL_length S Ls.reverse zs
  have e2 := dnL_length S Ls.reverse ys
  walk_at "ev"
  rw [listD_ints]
  walk_at "ev"
  rw [hdb]
  walk_at "ev"
  rw [same_ints _ (by omega)]
  walk_at "ev"
  rw [same_ints _ (by omega)]
  walk_at "ev"
  rw [ey]
  walk_at "ev"
  rw [hdy]
  walk_at "ev"
  generalize dnBL S zs Ls.reverse = ws at *
  generalize dnL S ys Ls.reverse = us at *
  simp only [forS, itR]
  walk_at "ev"
  rw [rng1_ok (bnd_of (by omega) (by omega))]
  walk_at "ev"
  refine body_forI (fun t ρ => ∃ x7, ρ = [some (.lst (ns.map D.int)), some (.tup (Ls.map Lf.d)), some (.int (cell ns 7)), some (.int S), some (.lst (xs.map sp)), some (.lst (zs.map D.int)), some (.lst (ws.map D.int)), x7, some (.lst (zs.map D.int)), some (.lst (ws.map D.int)), some (.lst (us.map sp)), none, none]) ⟨_, rfl⟩ (fun t d hd ρ hi => ?_) (fun ρ ⟨y7, hρ⟩ => ?_)
  · obtain ⟨x7, rfl⟩ := hi
    obtain ⟨ht, rfl⟩ := rngL_at hd
    have ht : t < ws.length := by omega
    refine ⟨_, rfl, ?_⟩
    show Go _ (ifS _ _ _ [some (.lst (ns.map D.int)), some (.tup (Ls.map Lf.d)), some (.int (cell ns 7)), some (.int S), some (.lst (xs.map sp)), some (.lst (zs.map D.int)), some (.lst (ws.map D.int)), some (.int (0 + (t : Int))), some (.lst (zs.map D.int)), some (.lst (ws.map D.int)), some (.lst (us.map sp)), none, none])
    obtain ⟨c1, c2⟩ := hW.2 t (by omega)
    walk_at "ev"
    rw [sp_at (i := t) (by omega) (by omega)]
    simp only [sp]
    walk_at "ev"
    rw [row_at (i := t) (by omega) (by omega)]
    walk_at "ev"
    rw [if_neg (by omega)]
    exact ⟨_, rfl⟩
  subst hρ
  walk_at "ev"
  rw [setS_ints (ns := ws) (k := 0) (v := ws.getD 0 0 + 1) (by walk_at "ev"; rw [row_at (i := 0) (by omega) (by omega)]; walk_at "ev") rfl (by walk_at "ev") (by decide) (by omega)]
  walk_at "ev"
  rw [appS_ints (ns := ws.set (0 : Int).toNat (ws.getD 0 0 + 1)) (v := 0) (by walk_at "ev") rfl (by rw [List.length_set]; omega)]
  walk_at "ev"
  rw [same_ints _ (by omega)]
  walk_at "ev"
end Lw

namespace Lw
open PySem PySem.Spec PyProof.Rows L2 Vs
theorem all_mk {w : World} {K : PySem.W.Frag} {h : Heap} {mg : Str → Option Value} {fa : Addr} (X : K.In h) (G : h.Ns mainGlobals mg) (hfa : mg "law" = some (.ref fa)) (d_neighbours : DefK K "neighbours" s_neighbours) (d_plus : DefK K "plus" s_plus) (d_minus : DefK K "minus" s_minus) (d_times : DefK K "times" s_times) (d_halved : DefK K "halved" s_halved) (d_taken : DefK K "taken" s_taken) (d_lowered_spans : DefK K "lowered_spans" s_lowered_spans) (d_broadened : DefK K "broadened" s_broadened) (d_lowered_breadths : DefK K "lowered_breadths" s_lowered_breadths) (d_law_cell_at : DefK K "_law_cell_at" s_law_cell_at) (d_law_whole : DefK K "_law_whole" s_law_whole) (d_law_lift : DefK K "_law_lift" s_law_lift) (d_law_ladder : DefK K "_law_ladder" s_law_ladder) (d_law_stride : DefK K "_law_stride" s_law_stride) (d_law_far : DefK K "_law_far" s_law_far) (d_law_spans : DefK K "_law_spans" s_law_spans) (d_law_thinner : DefK K "_law_thinner" s_law_thinner) (d_law_undone : DefK K "_law_undone" s_law_undone) (d_law_same : DefK K "_law_same" s_law_same) (d_law : DefK K "law" s_law) (n_abs : NoK K "abs") (n_bool : NoK K "bool") (n_int : NoK K "int") (n_isinstance : NoK K "isinstance") (n_len : NoK K "len") (n_list : NoK K "list") (n_max : NoK K "max") (n_min : NoK K "min") (n_range : NoK K "range") (n_reversed : NoK K "reversed") (n_tuple : NoK K "tuple") :
    ∃ fd : FuncData, (∀ (s : Shared) (u : Value), BindsTo s fd ⟨[u], []⟩ [("_law_script", u)]) ∧ ∀ base : Heap, K.In base → base.Ns mainGlobals mg → FnOk PySem.Challenge.rw_liftwave_k13_breadths_lowered.prog w K mg base (L2.CX PySem.Challenge.rw_liftwave_k13_breadths_lowered.prog w) 4 fa fd ["_law_script"] (spLaw K) := by
  have T : Txt K mg := ⟨no_of X G n_abs, no_of X G n_bool, no_of X G n_int, no_of X G n_isinstance, no_of X G n_len, no_of X G n_list, no_of X G n_max, no_of X G n_min, no_of X G n_range, no_of X G n_reversed, no_of X G n_tuple⟩
  refine law_end (k := 3) (N := ["_law_script", "_law_ladder_here", "_law_cell", "_law_stride_here", "_law_spans_here", "_law_row", "_law_due", "_law_k", "_law_handed", "_law_found", "_law_narrow", "_law_low", "_law_high"]) (b := b_law) (own' := []) (defL_of X G hfa d_law) sc_law (by decide) (fun _ _ _ _ _ _ s v => .of_eq rfl) (fun base _ _ => ?_) Lw.law_true
  have k_neighbours := c_neighbours (P := PySem.Challenge.rw_liftwave_k13_breadths_lowered.prog) (w := w) (base := base) T (def_of X G d_neighbours)
  have k_plus := c_plus (P := PySem.Challenge.rw_liftwave_k13_breadths_lowered.prog) (w := w) (base := base) T (def_of X G d_plus)
  have k_minus := c_minus (P := PySem.Challenge.rw_liftwave_k13_breadths_lowered.prog) (w := w) (base := base) T (def_of X G d_minus)
  have k_times := c_times (P := PySem.Challenge.rw_liftwave_k13_breadths_lowered.prog) (w := w) (base := base) T (def_of X G d_times)
  have k_halved := c_halved (P := PySem.Challenge.rw_liftwave_k13_breadths_lowered.prog) (w := w) (base := base) T (def_of X G d_halved)
  have k_taken := c_taken (P := PySem.Challenge.rw_liftwave_k13_breadths_lowered.prog) (w := w) (base := base) T (def_of X G d_taken) k_neighbours k_plus k_times k_halved
  have k_lowered_spans := c_lowered_spans (P := PySem.Challenge.rw_liftwave_k13_breadths_lowered.prog) (w := w) (base := base) T (def_of X G d_lowered_spans) k_taken k_minus
  have k_broadened := c_broadened (P := PySem.Challenge.rw_liftwave_k13_breadths_lowered.prog) (w := w) (base := base) T (def_of X G d_broadened) k_neighbours
  have k_lowered_breadths := c_lowered_breadths (P := PySem.Challenge.rw_liftwave_k13_breadths_lowered.prog) (w := w) (base := base) T (def_of X G d_lowered_breadths) k_broadened
  have k_law_cell_at := c_law_cell_at (P := PySem.Challenge.rw_liftwave_k13_breadths_lowered.prog) (w := w) (base := base) T (def_of X G d_law_cell_at)
  have k_law_whole := c_law_whole (P := PySem.Challenge.rw_liftwave_k13_breadths_lowered.prog) (w := w) (base := base) T (def_of X G d_law_whole)
  have k_law_lift := c_law_lift (P := PySem.Challenge.rw_liftwave_k13_breadths_lowered.prog) (w := w) (base := base) T (def_of X G d_law_lift)
  have k_law_ladder := c_law_ladder (P := PySem.Challenge.rw_liftwave_k13_breadths_lowered.prog) (w := w) (base := base) T (def_of X G d_law_ladder) k_law_cell_at k_law_lift
  have k_law_stride := c_law_stride (P := PySem.Challenge.rw_liftwave_k13_breadths_lowered.prog) (w := w) (base := base) T (def_of X G d_law_stride)
  have k_law_far := c_law_far (P := PySem.Challenge.rw_liftwave_k13_breadths_lowered.prog) (w := w) (base := base) T (def_of X G d_law_far)
  have k_law_spans := c_law_spans (P := PySem.Challenge.rw_liftwave_k13_breadths_lowered.prog) (w := w) (base := base) T (def_of X G d_law_spans) k_law_far k_law_cell_at
  have k_law_thinner := c_law_thinner (P := PySem.Challenge.rw_liftwave_k13_breadths_lowered.prog) (w := w) (base := base) T (def_of X G d_law_thinner)
  have k_law_undone := c_law_undone (P := PySem.Challenge.rw_liftwave_k13_breadths_lowered.prog) (w := w) (base := base) T (def_of X G d_law_undone)
  have k_law_same := c_law_same (P := PySem.Challenge.rw_liftwave_k13_breadths_lowered.prog) (w := w) (base := base) T (def_of X G d_law_same) k_law_whole
  exact v_law T k_law_ladder k_law_cell_at k_law_stride k_law_spans k_law_undone k_lowered_breadths k_law_same k_lowered_spans k_law_thinner
end Lw
open PySem PySem.W PyProof.Rows in
set_option maxRecDepth 100000 in
set_option maxHeartbeats 0 in
theorem PySem.Challenge.cw_liftwave_k13_breadths_lowered_holds : PySem.Challenge.rw_liftwave_k13_breadths_lowered.Holds := by
  w_on; o_law; k_head; (case hw => w_witness2)
  k_fill
  refine Vs.walk (l := PySem.Challenge.rw_liftwave_k13_breadths_lowered) (k := 4) rfl rfl ⟨rfl, by decide, by decide⟩ (fun w h Y => PySem.W.kIn_of Y) ?F
  case F =>
    intro w mg fa h KX G hmg
    refine' Lw.all_mk KX G hmg ?d_neighbours ?d_plus ?d_minus ?d_times ?d_halved ?d_taken ?d_lowered_spans ?d_broadened ?d_lowered_breadths ?d_law_cell_at ?d_law_whole ?d_law_lift ?d_law_ladder ?d_law_stride ?d_law_far ?d_law_spans ?d_law_thinner ?d_law_undone ?d_law_same ?d_law ?n_abs ?n_bool ?n_int ?n_isinstance ?n_len ?n_list ?n_max ?n_min ?n_range ?n_reversed ?n_tuple
    (case d_neighbours => refine' Vs.defK_mk ?a ?l ?c ?k; (case a => k_is); (case l => k_is); (case c => k_is); (case k => k_is))
    (case d_plus => refine' Vs.defK_mk ?a ?l ?c ?k; (case a => k_is); (case l => k_is); (case c => k_is); (case k => k_is))
    (case d_minus => refine' Vs.defK_mk ?a ?l ?c ?k; (case a => k_is); (case l => k_is); (case c => k_is); (case k => k_is))
    (case d_times => refine' Vs.defK_mk ?a ?l ?c ?k; (case a => k_is); (case l => k_is); (case c => k_is); (case k => k_is))
    (case d_halved => refine' Vs.defK_mk ?a ?l ?c ?k; (case a => k_is); (case l => k_is); (case c => k_is); (case k => k_is))
    (case d_taken => refine' Vs.defK_mk ?a ?l ?c ?k; (case a => k_is); (case l => k_is); (case c => k_is); (case k => k_is))
    (case d_lowered_spans => refine' Vs.defK_mk ?a ?l ?c ?k; (case a => k_is); (case l => k_is); (case c => k_is); (case k => k_is))
    (case d_broadened => refine' Vs.defK_mk ?a ?l ?c ?k; (case a => k_is); (case l => k_is); (case c => k_is); (case k => k_is))
    (case d_lowered_breadths => refine' Vs.defK_mk ?a ?l ?c ?k; (case a => k_is); (case l => k_is); (case c => k_is); (case k => k_is))
    (case d_law_cell_at => refine' Vs.defK_mk ?a ?l ?c ?k; (case a => k_is); (case l => k_is); (case c => k_is); (case k => k_is))
    (case d_law_whole => refine' Vs.defK_mk ?a ?l ?c ?k; (case a => k_is); (case l => k_is); (case c => k_is); (case k => k_is))
    (case d_law_lift => refine' Vs.defK_mk ?a ?l ?c ?k; (case a => k_is); (case l => k_is); (case c => k_is); (case k => k_is))
    (case d_law_ladder => refine' Vs.defK_mk ?a ?l ?c ?k; (case a => k_is); (case l => k_is); (case c => k_is); (case k => k_is))
    (case d_law_stride => refine' Vs.defK_mk ?a ?l ?c ?k; (case a => k_is); (case l => k_is); (case c => k_is); (case k => k_is))
    (case d_law_far => refine' Vs.defK_mk ?a ?l ?c ?k; (case a => k_is); (case l => k_is); (case c => k_is); (case k => k_is))
    (case d_law_spans => refine' Vs.defK_mk ?a ?l ?c ?k; (case a => k_is); (case l => k_is); (case c => k_is); (case k => k_is))
    (case d_law_thinner => refine' Vs.defK_mk ?a ?l ?c ?k; (case a => k_is); (case l => k_is); (case c => k_is); (case k => k_is))
    (case d_law_undone => refine' Vs.defK_mk ?a ?l ?c ?k; (case a => k_is); (case l => k_is); (case c => k_is); (case k => k_is))
    (case d_law_same => refine' Vs.defK_mk ?a ?l ?c ?k; (case a => k_is); (case l => k_is); (case c => k_is); (case k => k_is))
    (case d_law => refine' Vs.defK_mk ?a ?l ?c ?k; (case a => k_is); (case l => k_is); (case c => k_is); (case k => k_is))
    (case n_abs => (unfold Vs.NoK; k_is))
    (case n_bool => (unfold Vs.NoK; k_is))
    (case n_int => (unfold Vs.NoK; k_is))
    (case n_isinstance => (unfold Vs.NoK; k_is))
    (case n_len => (unfold Vs.NoK; k_is))
    (case n_list => (unfold Vs.NoK; k_is))
    (case n_max => (unfold Vs.NoK; k_is))
    (case n_min => (unfold Vs.NoK; k_is))
    (case n_range => (unfold Vs.NoK; k_is))
    (case n_reversed => (unfold Vs.NoK; k_is))
    (case n_tuple => (unfold Vs.NoK; k_is))
