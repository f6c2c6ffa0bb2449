import PyProof.Rows.All
import Wide.All
import OpenK.AllK
import Wide.FinOn
import HandS.ForMost
import HandS.ForExc
import HandS.TupAny
import HandS.WideBits
import HandS.Wide
import HandS.IsInst
import HandS.CallSlots
import HandS.Rev
import HandS.Zip
import HandS.EndBits
import PyProof.Rows.ChunkLeaf
import PyProof.AutoSeq1
import HandS.Text
import HandS.StrMore
import PyProof.StrOps2
import PySem.Challenge.RW_liftwave_k22_told_plainly
set_option Elab.async false
set_option linter.all false
set_option maxRecDepth 100000
set_option maxHeartbeats 4000000
/-! Vs: values in place of heaps, over the hand layer. -/
namespace Vs
open PySem PySem.Spec PyProof.Rows L2

/-- data -/
inductive D where
  | non | bl (b : Bool) | int (i : Int) | str (x : Str) | lst (xs : List D) | tup (xs : List D) | dic (ks vs : List D) | fn (x : Str) | exc (c : Str) (a : Addr) | obj (c : Str) (ks : List Str) (vs : List D)

inductive R (α : Type) where
  | st | ok (a : α) | ex (c : Str)
def R.bind {α β : Type} : R α → (α → R β) → R β
  | .st, _ => .st
  | .ok a, f => f a
  | .ex c, _ => .ex c
@[simp] theorem R.bind_ok {α β : Type} (a : α) (f : α → R β) : (R.ok a).bind f = f a := rfl
@[simp] theorem R.bind_st {α β : Type} (f : α → R β) : (R.st).bind f = .st := rfl
@[simp] theorem R.bind_ex {α β : Type} (c : Str) (f : α → R β) : (R.ex c).bind f = .ex c := rfl

abbrev Env := List (Option D)

mutual
def immD : D → Bool
  | .non | .bl _ | .int _ | .str _ | .fn _ | .exc _ _ => true
  | .lst _ | .dic _ _ | .obj _ _ _ => false
  | .tup xs => immDs xs
def immDs : List D → Bool
  | [] => true
  | x :: xs => immD x && immDs xs
end

/-- a dict's key as data -/
def keyD : Key → D
  | .inl i => .int i
  | .inr x => .str x

/-- a tuple that was made -/
def TpT (K : PySem.W.Frag) (H : Hp) (a : Addr) (xs : List V) : Prop := H a = some (.tup xs)
theorem TpT.sq {K : PySem.W.Frag} {H : Hp} {a : Addr} {xs : List V} (h : TpT K H a xs) : SqT K H a xs := SqT.of h
/-- x is the module's own name of what stands at a -/
def NameK (K : PySem.W.Frag) (x : Str) (a : Addr) : Prop := PySem.W.nsIn K mainGlobals x = some (some (.ref a))
mutual
/-- v is to be read as d -/
inductive Rd (K : PySem.W.Frag) (H : Hp) : V → D → Prop
  | non : Rd K H .non .non
  | bl (b : Bool) : Rd K H (.bl b) (.bl b)
  | int (i : Int) : Rd K H (.int i) (.int i)
  | str (x : Str) : Rd K H (.str x) (.str x)
  | fn {a : Addr} {x : Str} : NameK K x a → Rd K H (.ref a) (.fn x)
  | exc (c : Str) (a : Addr) : Rd K H (.ref a) (.exc c a)
  | lst {a : Addr} {vs : List V} {ds : List D} : SqL K H a vs → Rds K H vs ds → Rd K H (.ref a) (.lst ds)
  | tup {a : Addr} {vs : List V} {ds : List D} : TpT K H a vs → Rds K H vs ds → Rd K H (.ref a) (.tup ds)
  | dk {a : Addr} {kvs : List (Key × V)} {ks : List D} {ds : List D} : H a = some (.dK kvs) → ks = kvs.map (fun p => keyD p.1) → Rds K H (kvs.map (·.2)) ds → Rd K H (.ref a) (.dic ks ds)
  | dt {a : Addr} {kvs : List (List Key × V)} {ks : List D} {ds : List D} : H a = some (.dT kvs) → ks = kvs.map (fun p => D.tup (p.1.map keyD)) → Rds K H (kvs.map (·.2)) ds → Rd K H (.ref a) (.dic ks ds)
  | obj {a C dx : Addr} {fs : List (Str × V)} {c : Str} {ks : List Str} {ds : List D} : H a = some (.ins C dx fs) → H dx = some (.own a) → NameK K c C → ks = fs.map (·.1) → Rds K H (fs.map (·.2)) ds → Rd K H (.ref a) (.obj c ks ds)
inductive Rds (K : PySem.W.Frag) (H : Hp) : List V → List D → Prop
  | nil : Rds K H [] []
  | cons {v : V} {vs : List V} {d : D} {ds : List D} : Rd K H v d → Rds K H vs ds → Rds K H (v :: vs) (d :: ds)
end

mutual
/-- v is d, and the lists of d stand at A, each once -/
inductive Fu (K : PySem.W.Frag) (H : Hp) : V → D → List Addr → Prop
  | non : Fu K H .non .non []
  | bl (b : Bool) : Fu K H (.bl b) (.bl b) []
  | int (i : Int) : Fu K H (.int i) (.int i) []
  | str (x : Str) : Fu K H (.str x) (.str x) []
  | fn {a : Addr} {x : Str} : NameK K x a → Fu K H (.ref a) (.fn x) []
  | exc (c : Str) (a : Addr) : Fu K H (.ref a) (.exc c a) []
  | lst {a : Addr} {vs : List V} {ds : List D} {A : List Addr} : H a = some (.lst vs) → Fus K H vs ds A → a ∉ A → Fu K H (.ref a) (.lst ds) (a :: A)
  | tup {a : Addr} {vs : List V} {ds : List D} {A : List Addr} : TpT K H a vs → Fus K H vs ds A → Fu K H (.ref a) (.tup ds) A
  | dk {a : Addr} {kvs : List (Key × V)} {ks : List D} {ds : List D} {A : List Addr} : H a = some (.dK kvs) → ks = kvs.map (fun p => keyD p.1) → Fus K H (kvs.map (·.2)) ds A → a ∉ A → Fu K H (.ref a) (.dic ks ds) (a :: A)
  | dt {a : Addr} {kvs : List (List Key × V)} {ks : List D} {ds : List D} {A : List Addr} : H a = some (.dT kvs) → ks = kvs.map (fun p => D.tup (p.1.map keyD)) → Fus K H (kvs.map (·.2)) ds A → a ∉ A → Fu K H (.ref a) (.dic ks ds) (a :: A)
  | obj {a C dx : Addr} {fs : List (Str × V)} {c : Str} {ks : List Str} {ds : List D} {A : List Addr} : H a = some (.ins C dx fs) → H dx = some (.own a) → NameK K c C → ks = fs.map (·.1) → Fus K H (fs.map (·.2)) ds A → a ∉ A → dx ∉ A → a ≠ dx → Fu K H (.ref a) (.obj c ks ds) (a :: dx :: A)
inductive Fus (K : PySem.W.Frag) (H : Hp) : List V → List D → List Addr → Prop
  | nil : Fus K H [] [] []
  | cons {v : V} {vs : List V} {d : D} {ds : List D} {A B : List Addr} : Fu K H v d A → Fus K H vs ds B → (∀ x ∈ A, x ∉ B) → Fus K H (v :: vs) (d :: ds) (A ++ B)
end

section
variable {K : PySem.W.Frag} {H H' S : Hp}

theorem seqT (e : Same H H') {a : Addr} {xs : List V} (h : TpT K H a xs) : TpT K H' a xs := e _ _ h

mutual
theorem Rd.mono (e : Same H H') : ∀ {v : V} {d : D}, Rd K H v d → Rd K H' v d
  | _, _, .non => .non
  | _, _, .bl b => .bl b
  | _, _, .int i => .int i
  | _, _, .str x => .str x
  | _, _, .fn n => .fn n
  | _, _, .exc c a => .exc c a
  | _, _, .lst h r => .lst (e.seq h) (Rds.mono e r)
  | _, _, .tup h r => .tup (seqT e h) (Rds.mono e r)
  | _, _, .dk h q r => .dk (e _ _ h) q (Rds.mono e r)
  | _, _, .dt h q r => .dt (e _ _ h) q (Rds.mono e r)
  | _, _, .obj h h2 n q r => .obj (e _ _ h) (e _ _ h2) n q (Rds.mono e r)
theorem Rds.mono (e : Same H H') : ∀ {vs : List V} {ds : List D}, Rds K H vs ds → Rds K H' vs ds
  | _, _, .nil => .nil
  | _, _, .cons h r => .cons (Rd.mono e h) (Rds.mono e r)
end

mutual
theorem Fu.rd : ∀ {v : V} {d : D} {A : List Addr}, Fu K H v d A → Rd K H v d
  | _, _, _, .non => .non
  | _, _, _, .bl b => .bl b
  | _, _, _, .int i => .int i
  | _, _, _, .str x => .str x
  | _, _, _, .fn n => .fn n
  | _, _, _, .exc c a => .exc c a
  | _, _, _, .lst h r _ => .lst (SqL.of h) (Fus.rd r)
  | _, _, _, .tup h r => .tup h (Fus.rd r)
  | _, _, _, .dk h q r _ => .dk h q (Fus.rd r)
  | _, _, _, .dt h q r _ => .dt h q (Fus.rd r)
  | _, _, _, .obj h h2 n q r _ _ _ => .obj h h2 n q (Fus.rd r)
theorem Fus.rd : ∀ {vs : List V} {ds : List D} {A : List Addr}, Fus K H vs ds A → Rds K H vs ds
  | _, _, _, .nil => .nil
  | _, _, _, .cons h r _ => .cons (Fu.rd h) (Fus.rd r)
end

mutual
/-- what is owned stays where its lists stay, and the tuples -/
theorem Fu.at : ∀ {v : V} {d : D} {A : List Addr}, Fu K H v d A → (∀ a ∈ A, H' a = H a) → (∀ b xs, TpT K H b xs → TpT K H' b xs) → Fu K H' v d A
  | _, _, _, .non, _, _ => .non
  | _, _, _, .bl b, _, _ => .bl b
  | _, _, _, .int i, _, _ => .int i
  | _, _, _, .str x, _, _ => .str x
  | _, _, _, .fn n, _, _ => .fn n
  | _, _, _, .exc c a, _, _ => .exc c a
  | _, _, _, .lst h r n, k, t => .lst ((k _ List.mem_cons_self).trans h) (Fus.at r (fun a ha => k a (List.mem_cons_of_mem _ ha)) t) n
  | _, _, _, .tup h r, k, t => .tup (t _ _ h) (Fus.at r k t)
  | _, _, _, .dk h q r n, k, t => .dk ((k _ List.mem_cons_self).trans h) q (Fus.at r (fun a ha => k a (List.mem_cons_of_mem _ ha)) t) n
  | _, _, _, .dt h q r n, k, t => .dt ((k _ List.mem_cons_self).trans h) q (Fus.at r (fun a ha => k a (List.mem_cons_of_mem _ ha)) t) n
  | _, _, _, .obj h h2 nk q r n n2 n3, k, t => .obj ((k _ List.mem_cons_self).trans h) ((k _ (List.mem_cons_of_mem _ List.mem_cons_self)).trans h2) nk q (Fus.at r (fun a ha => k a (List.mem_cons_of_mem _ (List.mem_cons_of_mem _ ha))) t) n n2 n3
theorem Fus.at : ∀ {vs : List V} {ds : List D} {A : List Addr}, Fus K H vs ds A → (∀ a ∈ A, H' a = H a) → (∀ b xs, TpT K H b xs → TpT K H' b xs) → Fus K H' vs ds A
  | _, _, _, .nil, _, _ => .nil
  | _, _, _, .cons h r n, k, t => .cons (Fu.at h (fun a ha => k a (List.mem_append_left _ ha)) t) (Fus.at r (fun a ha => k a (List.mem_append_right _ ha)) t) n
end

mutual
/-- the owned lists are tracked -/
theorem Fu.there : ∀ {v : V} {d : D} {A : List Addr}, Fu K H v d A → ∀ a ∈ A, ∃ o, H a = some o
  | _, _, _, .non, _, h => nomatch h
  | _, _, _, .bl b, _, h => nomatch h
  | _, _, _, .int i, _, h => nomatch h
  | _, _, _, .str x, _, h => nomatch h
  | _, _, _, .fn n, _, h => nomatch h
  | _, _, _, .exc c a, _, h => nomatch h
  | _, _, _, .lst h r n, a, m => by
    rcases List.mem_cons.mp m with e | m
    · exact ⟨_, e ▸ h⟩
    · exact Fus.there r a m
  | _, _, _, .tup h r, a, m => Fus.there r a m
  | _, _, _, .dk h q r n, a, m => by
    rcases List.mem_cons.mp m with e | m
    · exact ⟨_, e ▸ h⟩
    · exact Fus.there r a m
  | _, _, _, .dt h q r n, a, m => by
    rcases List.mem_cons.mp m with e | m
    · exact ⟨_, e ▸ h⟩
    · exact Fus.there r a m
  | _, _, _, .obj h h2 nk q r n n2 n3, a, m => by
    rcases List.mem_cons.mp m with e | m
    · exact ⟨_, e ▸ h⟩
    · rcases List.mem_cons.mp m with e | m
      · exact ⟨_, e ▸ h2⟩
      · exact Fus.there r a m
theorem Fus.there : ∀ {vs : List V} {ds : List D} {A : List Addr}, Fus K H vs ds A → ∀ a ∈ A, ∃ o, H a = some o
  | _, _, _, .nil, _, h => nomatch h
  | _, _, _, .cons h r _, a, m => by
    rcases List.mem_append.mp m with m | m
    · exact Fu.there h a m
    · exact Fus.there r a m
end
theorem Fu.same {v : V} {d : D} {A : List Addr} (f : Fu K H v d A) (e : Same H H') : Fu K H' v d A :=
  f.at (fun a ha => by obtain ⟨o, h⟩ := f.there a ha; rw [h]; exact e a o h) fun b xs h => seqT e h
theorem Fus.same {v : List V} {d : List D} {A : List Addr} (f : Fus K H v d A) (e : Same H H') : Fus K H' v d A :=
  f.at (fun a ha => by obtain ⟨o, h⟩ := f.there a ha; rw [h]; exact e a o h) fun b xs h => seqT e h

mutual
theorem Rd.fu : ∀ {v : V} {d : D}, Rd K H v d → immD d = true → Fu K H v d []
  | _, _, .non, _ => .non
  | _, _, .bl b, _ => .bl b
  | _, _, .int i, _ => .int i
  | _, _, .str x, _ => .str x
  | _, _, .fn n, _ => .fn n
  | _, _, .exc c a, _ => .exc c a
  | _, _, .lst _ _, m => absurd m (by rw [immD]; exact Bool.false_ne_true)
  | _, _, .tup h r, m => .tup h (Rds.fu r (by rw [immD] at m; exact m))
  | _, _, .dk _ _ _, m => absurd m (by rw [immD]; exact Bool.false_ne_true)
  | _, _, .dt _ _ _, m => absurd m (by rw [immD]; exact Bool.false_ne_true)
  | _, _, .obj _ _ _ _ _, m => absurd m (by rw [immD]; exact Bool.false_ne_true)
theorem Rds.fu : ∀ {vs : List V} {ds : List D}, Rds K H vs ds → immDs ds = true → Fus K H vs ds []
  | _, _, .nil, _ => .nil
  | _, _, .cons h r, m => Fus.cons (A := []) (B := []) (Rd.fu h (by rw [immDs, Bool.and_eq_true] at m; exact m.1)) (Rds.fu r (by rw [immDs, Bool.and_eq_true] at m; exact m.2)) (fun _ h => nomatch h)
end
theorem Fus.app {vs ws : List V} {ds es : List D} {A B : List Addr} (f : Fus K H vs ds A) (g : Fus K H ws es B) (n : ∀ x ∈ A, x ∉ B) : Fus K H (vs ++ ws) (ds ++ es) (A ++ B) := by
  induction vs generalizing ds A with
  | nil => cases f; exact g
  | cons v vs ih =>
    cases f with
    | cons h r m =>
      rw [List.append_assoc]
      refine .cons h (ih r fun x hx => n x (List.mem_append_right _ hx)) fun x hx q => ?_
      rcases List.mem_append.mp q with q | q
      · exact m x hx q
      · exact n x (List.mem_append_left _ hx) q
theorem Rds.app {vs ws : List V} {ds es : List D} (f : Rds K H vs ds) (g : Rds K H ws es) : Rds K H (vs ++ ws) (ds ++ es) := by
  induction vs generalizing ds with
  | nil => cases f; exact g
  | cons v vs ih =>
    cases f with
    | cons h r => exact .cons h (ih r)
theorem Rds.length {vs : List V} {ds : List D} (f : Rds K H vs ds) : vs.length = ds.length := by
  induction vs generalizing ds with
  | nil => cases f; rfl
  | cons v vs ih =>
    cases f with
    | cons h r => simp [ih r]
theorem Rds.get {vs : List V} {ds : List D} (f : Rds K H vs ds) : ∀ {i : Nat} {d : D}, ds[i]? = some d → ∃ v, vs[i]? = some v ∧ Rd K H v d := by
  induction vs generalizing ds with
  | nil => cases f; intro i d h; simp at h
  | cons v vs ih =>
    cases f with
    | cons h r =>
      intro i d q
      cases i with
      | zero => simp at q; subst q; exact ⟨v, rfl, h⟩
      | succ i => simpa using ih r (by simpa using q)
theorem Rds.getV {vs : List V} {ds : List D} (f : Rds K H vs ds) : ∀ {i : Nat} {v : V}, vs[i]? = some v → ∃ d, ds[i]? = some d ∧ Rd K H v d := by
  induction vs generalizing ds with
  | nil => intro i v h; simp at h
  | cons v vs ih =>
    cases f with
    | cons h r =>
      intro i d q
      cases i with
      | zero => simp at q; subst q; exact ⟨_, rfl, h⟩
      | succ i => simpa using ih r (by simpa using q)
theorem Fus.length {vs : List V} {ds : List D} {A : List Addr} (f : Fus K H vs ds A) : vs.length = ds.length := f.rd.length
/-- an item of what is owned -/
theorem Fus.get {vs : List V} {ds : List D} {A : List Addr} (f : Fus K H vs ds A) : ∀ {i : Nat} {d : D}, ds[i]? = some d → ∃ v A', vs[i]? = some v ∧ Fu K H v d A' ∧ ∀ a ∈ A', a ∈ A := by
  induction vs generalizing ds A with
  | nil => cases f; intro i d h; simp at h
  | cons v vs ih =>
    cases f with
    | cons h r m =>
      intro i d q
      cases i with
      | zero => simp at q; subst q; exact ⟨v, _, rfl, h, fun a ha => List.mem_append_left _ ha⟩
      | succ i =>
        obtain ⟨w, A', h1, h2, h3⟩ := ih r (by simpa using q : _ = some d)
        exact ⟨w, A', by simpa using h1, h2, fun a ha => List.mem_append_right _ (h3 a ha)⟩
/-- an item changed for another -/
theorem Fus.set {vs : List V} {ds : List D} {A B : List Addr} {w : V} {e : D} (g : Fu K H w e B) : ∀ {vs : List V} {ds : List D} {A : List Addr}, Fus K H vs ds A → (∀ x ∈ B, x ∉ A) → ∀ i, ∃ A', Fus K H (vs.set i w) (ds.set i e) A' ∧ ∀ a ∈ A', a ∈ A ∨ a ∈ B := by
  intro vs
  induction vs with
  | nil => intro ds A f n i; cases f; exact ⟨[], .nil, fun a h => nomatch h⟩
  | cons v vs ih =>
    intro ds A f n i
    cases f with
    | cons h r m =>
      rename_i A1 A2
      cases i with
      | zero =>
        refine ⟨_, .cons g r fun x hx q => n x hx (List.mem_append_right _ q), fun a ha => ?_⟩
        rcases List.mem_append.mp ha with q | q
        · exact .inr q
        · exact .inl (List.mem_append_right _ q)
      | succ i =>
        obtain ⟨A', h1, h2⟩ := ih r (fun x hx q => n x hx (List.mem_append_right _ q)) i
        refine ⟨_, .cons h h1 fun x hx q => ?_, fun a ha => ?_⟩
        · rcases h2 x q with q | q
          · exact m x hx q
          · exact n x q (List.mem_append_left _ hx)
        · rcases List.mem_append.mp ha with q | q
          · exact .inl (List.mem_append_left _ q)
          · rcases h2 a q with q | q
            · exact .inl (List.mem_append_right _ q)
            · exact .inr q
end

/-! ### the outcome of an expression -/
/-- the slots' values read as data -/
structure REnv (K : PySem.W.Frag) (ρ : Env) (σ : L2.St) (H : Hp) : Prop where
  len : ρ.length = σ.length
  val : ∀ (i : Nat) (d : D), ρ[i]? = some (some d) → ∃ v, σ[i]? = some (some v) ∧ Rd K H v d
theorem REnv.mono {K : PySem.W.Frag} {ρ : Env} {σ : L2.St} {H H' : Hp} (h : REnv K ρ σ H) (e : Same H H') : REnv K ρ σ H' := ⟨h.len, fun i d q =>
  let ⟨v, h1, h2⟩ := h.val i d q
  ⟨v, h1, h2.mono e⟩⟩

section
variable {α β : Type}
def Out (mg : Str → Option Value) (W : WX) (σ : L2.St) (H : Hp) (r : R α) (P : α → Prop) : Prop := match r with
  | .ok a => P a
  | .ex c => ∃ C, mg c = some (.ref C) ∧ ∀ H', Same H H' → W (.ref C) none σ H'
  | .st => False
variable {mg : Str → Option Value} {W : WX} {σ : L2.St} {H H' : Hp}
theorem Out.bind {r : R α} {g : α → R β} {P : β → Prop} (h : Out mg W σ H (r.bind g) P) : Out mg W σ H r fun a => Out mg W σ H (g a) P := by
  cases r with
  | ok a => exact h
  | ex c => exact h
  | st => exact h
theorem Out.mono {r : R α} {P P' : α → Prop} (h : Out mg W σ H r P) (q : ∀ a, r = .ok a → P a → P' a) : Out mg W σ H r P' := by
  cases r with
  | ok a => exact q a rfl h
  | ex c => exact h
  | st => exact h
theorem Out.up {r : R α} {P : α → Prop} (h : Out mg W σ H r P) (e : Same H H') : Out mg W σ H' r P := by
  cases r with
  | ok a => exact h
  | ex c => obtain ⟨C, h1, h2⟩ := h; exact ⟨C, h1, fun H2 s => h2 H2 (e.trans s)⟩
  | st => exact h
end

/-- a value that is read -/
def tF (K : PySem.W.Frag) (mg : Str → Option Value) (W : WX) (f : Env → R D) : TE := fun σ H Q => ∃ ρ, REnv K ρ σ H ∧ Out mg W σ H (f ρ) fun d => ∀ v H', Same H H' → Rd K H' v d → Q v H'
/-- a value that is new and the asker's own -/
def tG (K : PySem.W.Frag) (mg : Str → Option Value) (W : WX) (f : Env → R D) : TE := fun σ H Q => ∃ ρ, REnv K ρ σ H ∧ Out mg W σ H (f ρ) fun d => ∀ v H' A, Same H H' → Fu K H' v d A → (∀ a ∈ A, H a = none) → Q v H'
/-- several values -/
def tFs (K : PySem.W.Frag) (mg : Str → Option Value) (W : WX) (f : Env → R (List D)) : TA := fun σ H Q => ∃ ρ, REnv K ρ σ H ∧ Out mg W σ H (f ρ) fun ds => ∀ vs H', Same H H' → Rds K H' vs ds → Q vs H'
def tGs (K : PySem.W.Frag) (mg : Str → Option Value) (W : WX) (f : Env → R (List D)) : TA := fun σ H Q => ∃ ρ, REnv K ρ σ H ∧ Out mg W σ H (f ρ) fun ds => ∀ vs H' A, Same H H' → Fus K H' vs ds A → (∀ a ∈ A, H a = none) → Q vs H'
/-- a test -/
def tT (K : PySem.W.Frag) (mg : Str → Option Value) (W : WX) (f : Env → R Bool) : TT := fun σ H Q => ∃ ρ, REnv K ρ σ H ∧ Out mg W σ H (f ρ) fun b => ∀ H', Same H H' → Q b H'

structure VE (X : Cx) (W : WX) (e : Expr) (f : Env → R D) : Prop where
  pe : PE X e (tF X.K X.mg W f)
structure VG (X : Cx) (W : WX) (e : Expr) (f : Env → R D) : Prop where
  pe : PE X e (tG X.K X.mg W f)
structure VT (X : Cx) (W : WX) (e : Expr) (f : Env → R Bool) : Prop where
  pt : PT X e (tT X.K X.mg W f)
structure VW (X : Cx) (W : WX) (e : Expr) (f : Env → R Bool) : Prop where
  pw : PW X e (tT X.K X.mg W f)
structure VA (X : Cx) (W : WX) (es : List Expr) (f : Env → R (List D)) : Prop where
  pa : PA X es (tFs X.K X.mg W f)
structure VB (X : Cx) (W : WX) (es : List Expr) (f : Env → R (List D)) : Prop where
  pa : PA X es (tGs X.K X.mg W f)

/-- weaker readings -/
theorem peW {X : Cx} {e : Expr} {t u : TE} (h : PE X e t) (q : ∀ σ H Q, u σ H Q → t σ H Q) : PE X e u := ⟨fun pins s σ H Q I x => h.run pins s σ H Q I (q σ H Q x)⟩
theorem ptW {X : Cx} {e : Expr} {t u : TT} (h : PT X e t) (q : ∀ σ H Q, u σ H Q → t σ H Q) : PT X e u := ⟨fun pins s σ H Q I x => h.run pins s σ H Q I (q σ H Q x)⟩
theorem pwW {X : Cx} {e : Expr} {t u : TT} (h : PW X e t) (q : ∀ σ H Q, u σ H Q → t σ H Q) : PW X e u := ⟨fun wh pins s σ H Q I x => h.run wh pins s σ H Q I (q σ H Q x)⟩
theorem paW {X : Cx} {es : List Expr} {t u : TA} (h : PA X es t) (q : ∀ σ H Q, u σ H Q → t σ H Q) : PA X es u := ⟨fun pos pins s σ H Q I x => h.run pos pins s σ H Q I (q σ H Q x)⟩
theorem psW {X : Cx} {st : Stmt} {t u : TS} (h : PS X st t) (q : ∀ D σ H, u D σ H → t D σ H) : PS X st u := ⟨fun pins s σ H D I x => h.run pins s σ H D I (q D σ H x)⟩
theorem pssW {X : Cx} {st : List Stmt} {t u : TS} (h : PSs X st t) (q : ∀ D σ H, u D σ H → t D σ H) : PSs X st u := ⟨fun pins s σ H D I x => h.run pins s σ H D I (q D σ H x)⟩

section
variable {X : Cx} {W : WX} {e a b c : Expr} {es : List Expr} {f g h : Env → R D} {pos : Pos}
theorem VG.ve (v : VG X W e f) : VE X W e f := ⟨peW v.pe fun σ H Q ⟨ρ, r, o⟩ => ⟨ρ, r, o.mono fun d _ q v H' A s fu _ => q v H' s fu.rd⟩⟩
/-- what is no list is anyone's -/
def imm (f : Env → R D) (ρ : Env) : R D := (f ρ).bind fun d => if immD d = true then .ok d else .st
theorem VE.vg (v : VE X W e f) : VG X W e (imm f) := ⟨peW v.pe fun σ H Q ⟨ρ, r, o⟩ => ⟨ρ, r, (Out.bind o).mono fun d _ q v H' s rd => by
  by_cases m : immD d = true
  · rw [if_pos m] at q
    exact q v H' [] s (rd.fu m) (fun _ h => nomatch h)
  · rw [if_neg m] at q
    exact q.elim⟩⟩

/-! ### names, constants -/
def varE (i : Nat) (ρ : Env) : R D := match ρ[i]? with
  | some (some d) => .ok d
  | _ => .st
theorem ve_var (i : Nat) {x : Str} (p : PE X (.Name x pos) (tVar i)) : VE X W (.Name x pos) (varE i) := ⟨peW p fun σ H Q ⟨ρ, r, o⟩ => by
  unfold varE at o
  split at o
  · rename_i d e
    obtain ⟨v, h1, h2⟩ := r.val i d e
    exact ⟨v, h1, o v H (Same.refl H) h2⟩
  · exact o.elim⟩
def cE (d : D) (_ : Env) : R D := .ok d
theorem vg_c {v : V} {d : D} (p : PE X e (tC v)) (fu : ∀ H, Fu X.K H v d []) : VG X W e (cE d) := ⟨peW p fun σ H Q ⟨ρ, r, o⟩ => o v H [] (Same.refl H) (fu H) (fun _ h => nomatch h)⟩
theorem vg_int {i : Int} {j} : VG X W (.Constant (.int i) j pos) (cE (.int i)) := vg_c pe_int fun _ => .int i
theorem vg_str {i : Str} {j} : VG X W (.Constant (.str i) j pos) (cE (.str i)) := vg_c pe_str fun _ => .str i
theorem vg_bl {i : Bool} {j} : VG X W (.Constant (.bool i) j pos) (cE (.bl i)) := vg_c pe_bl fun _ => .bl i
theorem vg_non {j} : VG X W (.Constant .none j pos) (cE .non) := vg_c pe_non fun _ => .non

/-! ### argument lists -/
def nilA (_ : Env) : R (List D) := .ok []
def consA (f : Env → R D) (fs : Env → R (List D)) (ρ : Env) : R (List D) := (f ρ).bind fun d => (fs ρ).bind fun ds => .ok (d :: ds)
theorem va_nil : VA X W [] nilA := ⟨paW pa_nil fun σ H Q ⟨ρ, r, o⟩ => o [] H (Same.refl H) .nil⟩
theorem vb_nil : VB X W [] nilA := ⟨paW pa_nil fun σ H Q ⟨ρ, r, o⟩ => o [] H [] (Same.refl H) .nil (fun _ h => nomatch h)⟩
theorem va_cons {fs : Env → R (List D)} (ha : VE X W e f) (hr : VA X W es fs) (hs : starEach (e :: es) X.env = (false, eval e X.env) :: starEach es X.env := by rfl) : VA X W (e :: es) (consA f fs) :=
  ⟨paW (pa_cons ha.pe hr.pa hs) fun σ H Q ⟨ρ, r, o⟩ => ⟨ρ, r, (Out.bind o).mono fun d _ q v H1 s1 r1 => ⟨ρ, r.mono s1, ((Out.bind q).up s1).mono fun ds _ q vs H2 s2 r2 => q (v :: vs) H2 (s1.trans s2) (.cons (r1.mono s2) r2)⟩⟩⟩
theorem vb_cons {fs : Env → R (List D)} (ha : VG X W e f) (hr : VB X W es fs) (hs : starEach (e :: es) X.env = (false, eval e X.env) :: starEach es X.env := by rfl) : VB X W (e :: es) (consA f fs) :=
  ⟨paW (pa_cons ha.pe hr.pa hs) fun σ H Q ⟨ρ, r, o⟩ => ⟨ρ, r, (Out.bind o).mono fun d _ q v H1 A s1 f1 n1 => ⟨ρ, r.mono s1, ((Out.bind q).up s1).mono fun ds _ q vs H2 B s2 f2 n2 => q (v :: vs) H2 (A ++ B) (s1.trans s2)
    (.cons (f1.same s2) f2 fun x hx hb => by obtain ⟨o, ho⟩ := f1.there x hx; rw [n2 x hb] at ho; cases ho)
    fun x hx => (List.mem_append.mp hx).elim (fun z => n1 x z) fun z => s1.free (n2 x z)⟩⟩⟩

/-! ### operators by values -/
/-- an operator's rule over data: pure, the result new -/
def OpD (X : Cx) (r : R2) (g : D → D → R D) : Prop := ∀ (x y : V) (d e : D) (H : Hp) (Q : VK) (z : D), Rd X.K H x d → Rd X.K H y e → g d e = .ok z → (∀ v H' A, Same H H' → Fu X.K H' v z A → (∀ a ∈ A, H a = none) → Q v H') → r x y H Q
def op2 (g : D → D → R D) (f h : Env → R D) (ρ : Env) : R D := (f ρ).bind fun d => (h ρ).bind fun e => g d e
def NoEx2 (g : D → D → R D) : Prop := ∀ d e c, g d e ≠ .ex c
theorem tOp_of {r : R2} {g : D → D → R D} (k : OpD X r g) (n : NoEx2 g) {σ : L2.St} {H : Hp} {Q : VK} (hh : tG X.K X.mg W (op2 g f h) σ H Q) : tOp r (tF X.K X.mg W f) (tF X.K X.mg W h) σ H Q := by
  obtain ⟨ρ, re, o⟩ := hh
  refine ⟨ρ, re, (Out.bind o).mono fun d _ q v H1 s1 r1 => ?_⟩
  refine ⟨ρ, re.mono s1, ((Out.bind q).up s1).mono fun e _ q w H2 s2 r2 => ?_⟩
  cases hz : g d e with
  | ok z =>
    rw [hz] at q
    exact k v w d e H2 Q z (r1.mono s2) r2 hz fun u H3 A s3 f3 n3 => q u H3 A ((s1.trans s2).trans s3) f3 fun a ha => (s1.trans s2).free (n3 a ha)
  | ex c => exact absurd hz (n d e c)
  | st => rw [hz] at q; exact q.elim
theorem vg_op {op : Operator} {r : R2} {g : D → D → R D} (ho : OpR X (binaryOp op) r) (k : OpD X r g) (n : NoEx2 g) (ha : VE X W a f) (hb : VE X W b h) : VG X W (.BinOp a op b pos) (op2 g f h) :=
  ⟨peW (pe_op ho ha.pe hb.pe) fun σ H Q q => tOp_of k n q⟩
theorem vg_cmp {op : CmpOp} {r : R2} {g : D → D → R D} (ho : OpR X (compareOp op) r) (k : OpD X r g) (n : NoEx2 g) (ha : VE X W a f) (hb : VE X W b h) (hm : behindInMarks op b = false) : VG X W (.Compare a [op] [b] pos) (op2 g f h) :=
  ⟨peW (pe_cmpR ho ha.pe hb.pe hm) fun σ H Q q => tOp_of k n q⟩
end
end Vs

namespace Vs
open PySem PySem.Spec PyProof.Rows L2

/-! ### operators -/
section
variable {X : Cx}
def rCatR (K : PySem.W.Frag) : R2 := fun x y H Q => ∃ l b xs zs, x = .ref l ∧ y = .ref b ∧ SqL K H l xs ∧ SqL K H b zs ∧ xs.length + zs.length ≤ sizeLine ∧ ∀ p, H p = none → Q (.ref p) (upd H p (.lst (xs ++ zs)))
theorem op_catR : OpR X (binaryOp .Add) (rCatR X.K) := by
  intro pins s σ H x y v u Q I rx ry h
  obtain ⟨l, b, xs, zs, rfl, rfl, hH, hB, hz, q⟩ := h
  cases rx
  cases ry
  obtain ⟨its, r, ⟨o, n, ho, hc, hdc, hd⟩, z⟩ := I.list hH
  obtain ⟨its2, r2, ⟨o2, n2, ho2, hc2, hdc2, hd2⟩, z2⟩ := I.list hB
  have l1 := r.length
  have l2 := r2.length
  obtain ⟨cls, dd, data, sl⟩ := o
  obtain ⟨cls2, dd2, data2, sl2⟩ := o2
  simp only at hc hd hc2 hd2 hdc hdc2
  subst hc hd hc2 hd2 hdc hdc2
  have ea : its.toArray ++ its2.toArray = (its ++ its2).toArray := by simp
  refine concat_meets ⟨_, ho, rfl⟩ ⟨_, ho2, rfl⟩ noFill_list_add seq_list_add F.slot_list_add F.entry_list_add (F.args_list_add_2 _ _) (list_addW l b its.toArray its2.toArray n n2 none none sl sl2 (by rw [List.size_toArray, List.size_toArray]; omega)) ⟨ho, ho2, ?_⟩
  rw [ea]
  exact ⟨.ref _, _, I.lnew (t' := s.toks) (r.append r2) (by rw [List.length_append]; omega), rfl, q _ I.fresh⟩
end

theorem new_same {H : Hp} {p : Addr} {o : HO} (h : H p = none) : Same H (upd H p o) := fun b x e => by
  rw [upd_ne (ne_of_none e h)]
  exact e
section
variable {K : PySem.W.Frag} {H : Hp}
theorem fu_new_lst {p : Addr} {vs : List V} {ds : List D} (hp : H p = none) (f : Rds K H vs ds) (m : immDs ds = true) : Fu K (upd H p (.lst vs)) (.ref p) (.lst ds) [p] :=
  .lst upd_same ((f.fu m).same (new_same hp)) (fun h => nomatch h)
theorem fu_new_tup {p : Addr} {vs : List V} {ds : List D} (hp : H p = none) (f : Rds K H vs ds) (m : immDs ds = true) : Fu K (upd H p (.tup vs)) (.ref p) (.tup ds) [] :=
  .tup upd_same ((f.fu m).same (new_same hp))
theorem immDs_app : ∀ {xs ys : List D}, immDs xs = true → immDs ys = true → immDs (xs ++ ys) = true
  | [], _, _, h => h
  | x :: xs, ys, h, h' => by
    rw [immDs, Bool.and_eq_true] at h
    show (immD x && immDs (xs ++ ys)) = true
    rw [h.1, immDs_app h.2 h']
    rfl
theorem Rds.flat {vs : List V} {ds : List D} (f : Rds K H vs ds) : ∀ n, Rds K H (List.replicate n vs).flatten (List.replicate n ds).flatten
  | 0 => .nil
  | n + 1 => by
    rw [List.replicate_succ, List.replicate_succ, List.flatten_cons, List.flatten_cons]
    exact f.app (f.flat n)
theorem immDs_flat {ds : List D} (m : immDs ds = true) : ∀ n, immDs (List.replicate n ds).flatten = true
  | 0 => rfl
  | n + 1 => by
    rw [List.replicate_succ, List.flatten_cons]
    exact immDs_app m (immDs_flat m n)
end

def addD : D → D → R D
  | .int i, .int j => .ok (.int (i + j))
  | .str x, .str y => if x.length + y.length ≤ sizeLine then .ok (.str (x ++ y)) else .st
  | .lst xs, .lst ys => if xs.length + ys.length ≤ sizeLine ∧ immDs xs = true ∧ immDs ys = true then .ok (.lst (xs ++ ys)) else .st
  | .tup xs, .tup ys => if xs.length + ys.length ≤ sizeLine ∧ immDs xs = true ∧ immDs ys = true then .ok (.tup (xs ++ ys)) else .st
  | _, _ => .st
def subD : D → D → R D
  | .int i, .int j => .ok (.int (i - j))
  | _, _ => .st
def mulOk (i j : Int) : Prop := i.natAbs.log2 + j.natAbs.log2 < 134217000
instance (i j : Int) : Decidable (mulOk i j) := inferInstanceAs (Decidable (_ < _))
theorem mulOk.ok {i j : Int} (h : mulOk i j) : IntMulOk i j := by
  have b : ∀ x : Int, Builtin.Int.intBits x ≤ x.natAbs.log2 + 1 := fun x => by
    unfold Builtin.Int.intBits
    split <;> omega
  have h1 := b i
  have h2 := b j
  have h3 : i.natAbs.log2 + j.natAbs.log2 < 134217000 := h
  have e : bitsLine = 134217728 := by decide
  unfold IntMulOk
  intro z
  rw [Bool.and_eq_true] at z
  have z2 := z.2
  unfold Builtin.Int.intTooBig at z2
  have z3 := of_decide_eq_true z2
  rw [e] at z3
  omega
def mulD : D → D → R D
  | .int i, .int j => if mulOk i j then .ok (.int (i * j)) else .st
  | _, _ => .st
/-- a new list, so many times -/
def repD : D → D → R D
  | .lst xs, .int k => if 0 ≤ k ∧ xs.length * k.toNat ≤ sizeLine ∧ k < 2 ^ 63 ∧ immDs xs = true then .ok (.lst (List.replicate k.toNat xs).flatten) else .st
  | _, _ => .st
def fdivD : D → D → R D
  | .int i, .int j => if 0 < j ∧ j.natAbs.log2 < 9000 then .ok (.int (i / j)) else .st
  | _, _ => .st
def modD : D → D → R D
  | .int i, .int j => if 0 < j then .ok (.int (i % j)) else .st
  | _, _ => .st
def powD : D → D → R D
  | .int i, .int j => if 0 ≤ j ∧ (Builtin.Int.intBits i : Int) * j ≤ 2 ^ 27 then .ok (.int (i ^ j.toNat)) else .st
  | _, _ => .st
def shlD : D → D → R D
  | .int i, .int j => if 0 ≤ j ∧ (Builtin.Int.intBits i : Int) + j ≤ 2 ^ 27 then .ok (.int (i * 2 ^ j.toNat)) else .st
  | _, _ => .st
def shrD : D → D → R D
  | .int i, .int j => if 0 ≤ j then .ok (.int (i / 2 ^ j.toNat)) else .st
  | _, _ => .st
def andD : D → D → R D
  | .int i, .int j => .ok (.int (Builtin.bitAnd i j))
  | _, _ => .st
def orD : D → D → R D
  | .int i, .int j => .ok (.int (Builtin.bitOr i j))
  | _, _ => .st
def ltD : D → D → R D
  | .int i, .int j => .ok (.bl (decide (i < j)))
  | _, _ => .st
def leD : D → D → R D
  | .int i, .int j => .ok (.bl (decide (i ≤ j)))
  | _, _ => .st
def gtD : D → D → R D
  | .int i, .int j => .ok (.bl (decide (j < i)))
  | _, _ => .st
def geD : D → D → R D
  | .int i, .int j => .ok (.bl (decide (j ≤ i)))
  | _, _ => .st

section
variable {X : Cx}
theorem rI_opD {C : Int → Int → Prop} {w : Int → Int → V} {g : D → D → R D} (w' : Int → Int → D) (hw : ∀ i j H, Fu X.K H (w i j) (w' i j) [])
    (hg : ∀ d e z, g d e = .ok z → ∃ i j, d = .int i ∧ e = .int j ∧ C i j ∧ z = w' i j) : OpD X (rI C w) g := fun x y d e H Q z rx ry h q => by
  obtain ⟨i, j, rfl, rfl, c, rfl⟩ := hg d e z h
  cases rx
  cases ry
  exact ⟨i, j, rfl, rfl, c, q _ H [] (Same.refl H) (hw i j H) (fun _ h => nomatch h)⟩
theorem rI0_opD {w : Int → Int → V} {g : D → D → R D} (w' : Int → Int → D) (hw : ∀ i j H, Fu X.K H (w i j) (w' i j) [])
    (hg : ∀ d e z, g d e = .ok z → ∃ i j, d = .int i ∧ e = .int j ∧ z = w' i j) : OpD X (rI0 w) g := fun x y d e H Q z rx ry h q => by
  obtain ⟨i, j, rfl, rfl, rfl⟩ := hg d e z h
  cases rx
  cases ry
  exact ⟨i, j, rfl, rfl, q _ H [] (Same.refl H) (hw i j H) (fun _ h => nomatch h)⟩
theorem d_sub : OpD X (rI0 fun i j => .int (i - j)) subD := rI0_opD (fun i j => .int (i - j)) (fun i j H => .int _) fun d e z h => by
  unfold subD at h; split at h
  · cases h; exact ⟨_, _, rfl, rfl, rfl⟩
  · cases h
theorem d_and : OpD X (rI0 fun i j => .int (Builtin.bitAnd i j)) andD := rI0_opD (fun i j => .int (Builtin.bitAnd i j)) (fun i j H => .int _) fun d e z h => by
  unfold andD at h; split at h
  · cases h; exact ⟨_, _, rfl, rfl, rfl⟩
  · cases h
theorem d_or : OpD X (rI0 fun i j => .int (Builtin.bitOr i j)) orD := rI0_opD (fun i j => .int (Builtin.bitOr i j)) (fun i j H => .int _) fun d e z h => by
  unfold orD at h; split at h
  · cases h; exact ⟨_, _, rfl, rfl, rfl⟩
  · cases h
theorem d_lt : OpD X (rI0 fun i j => .bl (decide (i < j))) ltD := rI0_opD (fun i j => .bl (decide (i < j))) (fun i j H => .bl _) fun d e z h => by
  unfold ltD at h; split at h
  · cases h; exact ⟨_, _, rfl, rfl, rfl⟩
  · cases h
theorem d_le : OpD X (rI0 fun i j => .bl (decide (i ≤ j))) leD := rI0_opD (fun i j => .bl (decide (i ≤ j))) (fun i j H => .bl _) fun d e z h => by
  unfold leD at h; split at h
  · cases h; exact ⟨_, _, rfl, rfl, rfl⟩
  · cases h
theorem d_gt : OpD X (rI0 fun i j => .bl (decide (j < i))) gtD := rI0_opD (fun i j => .bl (decide (j < i))) (fun i j H => .bl _) fun d e z h => by
  unfold gtD at h; split at h
  · cases h; exact ⟨_, _, rfl, rfl, rfl⟩
  · cases h
theorem d_ge : OpD X (rI0 fun i j => .bl (decide (j ≤ i))) geD := rI0_opD (fun i j => .bl (decide (j ≤ i))) (fun i j H => .bl _) fun d e z h => by
  unfold geD at h; split at h
  · cases h; exact ⟨_, _, rfl, rfl, rfl⟩
  · cases h
theorem d_fdiv : OpD X (rI CDivW fun i j => .int (i / j)) fdivD := rI_opD (fun i j => .int (i / j)) (fun i j H => .int _) fun d e z h => by
  unfold fdivD at h; split at h
  · split at h
    · rename_i c; cases h; exact ⟨_, _, rfl, rfl, c, rfl⟩
    · cases h
  · cases h
theorem d_mod : OpD X (rI (fun _ j => 0 < j) fun i j => .int (i % j)) modD := rI_opD (fun i j => .int (i % j)) (fun i j H => .int _) fun d e z h => by
  unfold modD at h; split at h
  · split at h
    · rename_i c; cases h; exact ⟨_, _, rfl, rfl, c, rfl⟩
    · cases h
  · cases h
def CPowV (i j : Int) : Prop := 0 ≤ j ∧ (Builtin.Int.intBits i : Int) * j ≤ 2 ^ 27
theorem op_powV : OpR X (binaryOp .Pow) (rI CPowV fun i j => .int (i ^ j.toNat)) := opI fun _ _ _ _ _ _ _ hc q => pow_int hc.1 hc.2 q
theorem d_pow : OpD X (rI CPowV fun i j => .int (i ^ j.toNat)) powD := rI_opD (fun i j => .int (i ^ j.toNat)) (fun i j H => .int _) fun d e z h => by
  unfold powD at h; split at h
  · split at h
    · rename_i c; cases h; exact ⟨_, _, rfl, rfl, c, rfl⟩
    · cases h
  · cases h
theorem d_shl : OpD X (rI CShl fun i j => .int (i * 2 ^ j.toNat)) shlD := rI_opD (fun i j => .int (i * 2 ^ j.toNat)) (fun i j H => .int _) fun d e z h => by
  unfold shlD at h; split at h
  · split at h
    · rename_i c; cases h; exact ⟨_, _, rfl, rfl, c, rfl⟩
    · cases h
  · cases h
theorem d_shr : OpD X (rI (fun _ j => 0 ≤ j) fun i j => .int (i / 2 ^ j.toNat)) shrD := rI_opD (fun i j => .int (i / 2 ^ j.toNat)) (fun i j H => .int _) fun d e z h => by
  unfold shrD at h; split at h
  · split at h
    · rename_i c; cases h; exact ⟨_, _, rfl, rfl, c, rfl⟩
    · cases h
  · cases h

def rAddA (K : PySem.W.Frag) : R2 := fun x y H Q => (rI0 (fun i j => .int (i + j)) x y H Q) ∨ (∃ i j, x = .str i ∧ y = .str j ∧ i.length + j.length ≤ sizeLine ∧ Q (.str (i ++ j)) H) ∨ rCatR K x y H Q ∨ rCatA K x y H Q
theorem op_addA : OpR X (binaryOp .Add) (rAddA X.K) := op_add.or (op_add_str.or (op_catR.or op_catA))
theorem d_add : OpD X (rAddA X.K) addD := fun x y d e H Q z rx ry h q => by
  unfold addD at h
  split at h
  · cases h; cases rx; cases ry
    exact .inl ⟨_, _, rfl, rfl, q _ H [] (Same.refl H) (.int _) (fun _ h => nomatch h)⟩
  · split at h
    · rename_i c
      cases h; cases rx; cases ry
      exact .inr (.inl ⟨_, _, rfl, rfl, c, q _ H [] (Same.refl H) (.str _) (fun _ h => nomatch h)⟩)
    · cases h
  · split at h
    · rename_i c
      cases h
      cases rx with
      | lst h1 r1 =>
        cases ry with
        | lst h2 r2 =>
          refine .inr (.inr (.inl ⟨_, _, _, _, rfl, rfl, h1, h2, by rw [r1.length, r2.length]; exact c.1, fun p hp => ?_⟩))
          exact q _ _ [p] (new_same hp) (fu_new_lst hp (r1.app r2) (immDs_app c.2.1 c.2.2)) fun a ha => by
            rw [List.mem_singleton.mp ha]; exact hp
    · cases h
  · split at h
    · rename_i c
      cases h
      cases rx with
      | tup h1 r1 =>
        cases ry with
        | tup h2 r2 =>
          refine .inr (.inr (.inr ⟨_, _, _, _, rfl, rfl, h1.sq, h2.sq, by rw [r1.length, r2.length]; exact c.1, fun e => ?_, fun _ e => ?_, fun _ _ p hp => ?_⟩))
          · subst e
            cases r1
            exact q _ H [] (Same.refl H) (.tup h2 (r2.fu c.2.2)) (fun _ h => nomatch h)
          · subst e
            cases r2
            rw [List.append_nil] at q
            exact q _ H [] (Same.refl H) (.tup h1 (r1.fu c.2.1)) (fun _ h => nomatch h)
          · exact q _ _ [] (new_same hp) (fu_new_tup hp (r1.app r2) (immDs_app c.2.1 c.2.2)) (fun _ h => nomatch h)
    · cases h
  · cases h
theorem op_mulI : OpR X (binaryOp .Mult) (rI IntMulOk fun i j => .int (i * j)) := opI fun _ _ _ _ _ _ _ hc q => mul_int q hc
theorem d_mul : OpD X (rI IntMulOk fun i j => .int (i * j)) mulD := rI_opD (fun i j => .int (i * j)) (fun i j H => .int _) fun d e z h => by
  unfold mulD at h; split at h
  · split at h
    · rename_i c; cases h; exact ⟨_, _, rfl, rfl, c.ok, rfl⟩
    · cases h
  · cases h
theorem nx_rep : NoEx2 repD := fun d e c h => by unfold repD at h; split at h <;> first | cases h | (split at h <;> cases h)
/-- [..] * k -/
theorem vg_rep {W : WX} {a b : Expr} {f g : Env → R D} {pos : Pos} (ha : VG X W a f) (hb : VE X W b g) : VG X W (.BinOp a .Mult b pos) (op2 repD f g) := ⟨peW (pe_op op_rep ha.pe hb.pe) fun σ H Q ⟨ρ, re, o⟩ => ⟨ρ, re, (Out.bind o).mono fun d _ q v H1 A s1 f1 n1 => ⟨ρ, re.mono s1, ((Out.bind q).up s1).mono fun e _ q w H2 s2 r2 => by
  unfold repD at q
  split at q
  · split at q
    · rename_i c
      cases r2
      cases f1 with
      | lst h1 r1 n =>
        refine ⟨_, _, _, rfl, rfl, s2 _ _ h1, by omega, c.2.2.1, by rw [r1.length]; exact c.2.1, fun p hp => ?_⟩
        exact q _ _ [p] ((s1.trans s2).trans (new_same hp)) (fu_new_lst hp ((r1.rd.mono s2).flat _) (immDs_flat c.2.2.2 _)) fun a ha => by
          rw [List.mem_singleton.mp ha]; exact (s1.trans s2).free hp
    · exact q.elim
  · exact q.elim⟩⟩⟩
end
/-- none of these raises -/
theorem nx_add : NoEx2 addD := fun d e c h => by unfold addD at h; split at h <;> first | cases h | (split at h <;> cases h)
theorem nx_sub : NoEx2 subD := fun d e c h => by unfold subD at h; split at h <;> cases h
theorem nx_mul : NoEx2 mulD := fun d e c h => by unfold mulD at h; split at h <;> first | cases h | (split at h <;> cases h)
theorem nx_fdiv : NoEx2 fdivD := fun d e c h => by unfold fdivD at h; split at h <;> first | cases h | (split at h <;> cases h)
theorem nx_mod : NoEx2 modD := fun d e c h => by unfold modD at h; split at h <;> first | cases h | (split at h <;> cases h)
theorem nx_pow : NoEx2 powD := fun d e c h => by unfold powD at h; split at h <;> first | cases h | (split at h <;> cases h)
theorem nx_shl : NoEx2 shlD := fun d e c h => by unfold shlD at h; split at h <;> first | cases h | (split at h <;> cases h)
theorem nx_shr : NoEx2 shrD := fun d e c h => by unfold shrD at h; split at h <;> first | cases h | (split at h <;> cases h)
theorem nx_and : NoEx2 andD := fun d e c h => by unfold andD at h; split at h <;> cases h
theorem nx_or : NoEx2 orD := fun d e c h => by unfold orD at h; split at h <;> cases h
theorem nx_lt : NoEx2 ltD := fun d e c h => by unfold ltD at h; split at h <;> cases h
theorem nx_le : NoEx2 leD := fun d e c h => by unfold leD at h; split at h <;> cases h
theorem nx_gt : NoEx2 gtD := fun d e c h => by unfold gtD at h; split at h <;> cases h
theorem nx_ge : NoEx2 geD := fun d e c h => by unfold geD at h; split at h <;> cases h
end Vs

namespace Vs
open PySem PySem.Spec PyProof.Rows L2

/-! ### equality -/
mutual
def pyD : D → PyData
  | .non => .none
  | .bl b => .bool b
  | .int i => .int i
  | .str x => .str x
  | .lst xs => .list (pyDs xs)
  | .tup xs => .tuple (pyDs xs)
  | .dic _ _ => .dict []
  | .fn _ => .dict []
  | .exc _ _ => .dict []
  | .obj _ _ _ => .dict []
def pyDs : List D → List PyData
  | [] => []
  | x :: xs => pyD x :: pyDs xs
end
section
variable {K : PySem.W.Frag} {H : Hp}
mutual
theorem Rd.dp : ∀ {v : V} {d : D}, Rd K H v d → (pyD d).canLay0 = true → Dp K H v (pyD d)
  | _, _, .non, _ => .non
  | _, _, .bl b, _ => .bl b
  | _, _, .int i, _ => .int i
  | _, _, .str x, _ => .str x
  | _, _, .fn n, m => by rw [pyD] at m; cases m
  | _, _, .exc c a, m => by rw [pyD] at m; cases m
  | _, _, .lst h r, m => by
    rw [pyD] at m ⊢
    exact .lst h (Rds.dps r m)
  | _, _, .tup h r, m => by
    rw [pyD] at m ⊢
    exact .tup h.sq (Rds.dps r m)
  | _, _, .dk _ _ _, m => by rw [pyD] at m; cases m
  | _, _, .dt _ _ _, m => by rw [pyD] at m; cases m
  | _, _, .obj _ _ _ _ _, m => by rw [pyD] at m; cases m
theorem Rds.dps : ∀ {vs : List V} {ds : List D}, Rds K H vs ds → PyData.canLayAll0 (pyDs ds) = true → DpAll K H vs (pyDs ds)
  | _, _, .nil, _ => .nil
  | _, _, .cons h r, m => by
    rw [pyDs] at m ⊢
    have m' : (pyD _).canLay0 = true ∧ PyData.canLayAll0 (pyDs _) = true := Bool.and_eq_true_iff.mp m
    exact .cons (Rd.dp h m'.1) (Rds.dps r m'.2)
end
end
def eqB (d e : D) : Bool := PyData.eqv (pyD d) (pyD e)
def eqD (d e : D) : R D := if SeqAt.shaped (pyD d) = true ∧ SeqAt.shaped (pyD e) = true then .ok (.bl (eqB d e)) else .st
def neD (d e : D) : R D := if SeqAt.shaped (pyD d) = true ∧ SeqAt.shaped (pyD e) = true then .ok (.bl (!eqB d e)) else .st
def isNonB : D → Bool
  | .non => true
  | _ => false
def isD (d e : D) : R D := match e with
  | .non => .ok (.bl (isNonB d))
  | _ => .st
def isNotD (d e : D) : R D := match e with
  | .non => .ok (.bl (!isNonB d))
  | _ => .st
theorem nx_eq : NoEx2 eqD := fun d e c h => by unfold eqD at h; split at h <;> cases h
theorem nx_ne : NoEx2 neD := fun d e c h => by unfold neD at h; split at h <;> cases h
theorem nx_is : NoEx2 isD := fun d e c h => by unfold isD at h; split at h <;> cases h
theorem nx_isNot : NoEx2 isNotD := fun d e c h => by unfold isNotD at h; split at h <;> cases h
def rIsNo : R2 := fun x y H Q => y = .non ∧ Q (.bl (decide (x = .non))) H
def rIsNotNo : R2 := fun x y H Q => y = .non ∧ Q (.bl (!decide (x = .non))) H
theorem isNonB_eq {K : PySem.W.Frag} {H : Hp} {v : V} {d : D} (r : Rd K H v d) : decide (v = .non) = isNonB d := by
  cases r <;> rfl
section
variable {X : Cx}
theorem d_eq : OpD X (rEqD X.K) eqD := fun x y d e H Q z rx ry h q => by
  unfold eqD at h
  split at h
  · rename_i c
    cases h
    exact ⟨_, _, rx.dp (SeqAt.canLay_of_shaped c.1), ry.dp (SeqAt.canLay_of_shaped c.2), c.1, c.2, q _ H [] (Same.refl H) (.bl _) (fun _ h => nomatch h)⟩
  · cases h
theorem d_ne : OpD X (rNeD X.K) neD := fun x y d e H Q z rx ry h q => by
  unfold neD at h
  split at h
  · rename_i c
    cases h
    exact ⟨_, _, rx.dp (SeqAt.canLay_of_shaped c.1), ry.dp (SeqAt.canLay_of_shaped c.2), c.1, c.2, q _ H [] (Same.refl H) (.bl _) (fun _ h => nomatch h)⟩
  · cases h
theorem d_is : OpD X rIsNo isD := fun x y d e H Q z rx ry h q => by
  unfold isD at h
  split at h
  · cases h
    cases ry
    refine ⟨rfl, ?_⟩
    rw [isNonB_eq rx]
    exact q _ H [] (Same.refl H) (.bl _) (fun _ h => nomatch h)
  · cases h
theorem d_isNot : OpD X rIsNotNo isNotD := fun x y d e H Q z rx ry h q => by
  unfold isNotD at h
  split at h
  · cases h
    cases ry
    refine ⟨rfl, ?_⟩
    rw [isNonB_eq rx]
    exact q _ H [] (Same.refl H) (.bl _) (fun _ h => nomatch h)
  · cases h
end

section
variable {X : Cx} {W : WX} {e a b c : Expr} {es : List Expr} {f g h : Env → R D} {fs : Env → R (List D)} {pos : Pos}

/-! ### -x -/
def negD : D → R D
  | .int i => .ok (.int (-i))
  | _ => .st
def negE (f : Env → R D) (ρ : Env) : R D := (f ρ).bind negD
theorem vg_neg (ha : VE X W a f) : VG X W (.UnaryOp .USub a pos) (negE f) := ⟨peW (pe_un un_neg ha.pe) fun σ H Q ⟨ρ, re, o⟩ => ⟨ρ, re, (Out.bind o).mono fun d _ q v H1 s1 r1 => by
  unfold negD at q
  split at q
  · cases r1
    exact ⟨_, rfl, q _ H1 [] s1 (.int _) (fun _ h => nomatch h)⟩
  · exact q.elim⟩⟩

/-! ### an item -/
def ixD : D → D → R D
  | .lst xs, .int i => match atI xs i with | some d => .ok d | none => .st
  | .tup xs, .int i => match atI xs i with | some d => .ok d | none => .st
  | .str z, .int i => if z.length ≤ sizeLine then (match atI z.cps.toList i with | some c => .ok (.str ⟨#[c]⟩) | none => .st) else .st
  | _, _ => .st
theorem atI_rd {K : PySem.W.Frag} {H : Hp} {vs : List V} {ds : List D} (r : Rds K H vs ds) {i : Int} {d : D} (h : atI ds i = some d) : ∃ v, atI vs i = some v ∧ Rd K H v d := by
  unfold atI at h ⊢
  rw [r.length]
  cases e : ixN ds.length i with
  | none => rw [e] at h; cases h
  | some j => rw [e] at h; exact r.get h
theorem ve_ix (ha : VE X W a f) (hb : VE X W b g) (hs : PlainIx b) : VE X W (.Subscript a b pos) (op2 ixD f g) :=
  ⟨peW (pe_ix ix_seq ha.pe hb.pe hs) fun σ H Q ⟨ρ, re, o⟩ => ⟨ρ, re, (Out.bind o).mono fun d _ q v H1 s1 r1 => ⟨ρ, re.mono s1, ((Out.bind q).up s1).mono fun e _ q w H2 s2 r2 => by
    unfold ixD at q
    split at q
    · split at q
      · rename_i hx
        cases r2
        cases r1 with
        | lst h1 r1 =>
          obtain ⟨u, hu, ru⟩ := atI_rd r1 hx
          exact .inl ⟨_, _, _, u, rfl, rfl, s2.seq h1, hu, q u H2 (s1.trans s2) (ru.mono s2)⟩
      · exact q.elim
    · split at q
      · rename_i hx
        cases r2
        cases r1 with
        | tup h1 r1 =>
          obtain ⟨u, hu, ru⟩ := atI_rd r1 hx
          exact .inr (.inl ⟨_, _, _, u, rfl, rfl, (seqT s2 h1).sq, hu, q u H2 (s1.trans s2) (ru.mono s2)⟩)
      · exact q.elim
    · split at q
      · rename_i hz
        split at q
        · rename_i hx
          cases r2
          cases r1
          exact .inr (.inr ⟨_, _, _, rfl, rfl, hz, hx, q _ H2 (s1.trans s2) (.str _)⟩)
        · exact q.elim
      · exact q.elim
    · exact q.elim⟩⟩⟩

/-! ### slices -/
def cutL {α : Type} (xs : List α) (lo hi : Option Int) : List α := (xs.drop (HT.sIx xs.length 0 lo)).take (HT.sIx xs.length xs.length hi - HT.sIx xs.length 0 lo)
theorem Rds.take {K : PySem.W.Frag} {H : Hp} : ∀ {vs : List V} {ds : List D} (n : Nat), Rds K H vs ds → Rds K H (vs.take n) (ds.take n)
  | _, _, 0, _ => .nil
  | _, _, _ + 1, .nil => .nil
  | _, _, n + 1, .cons h r => .cons h (Rds.take n r)
theorem Rds.drop {K : PySem.W.Frag} {H : Hp} : ∀ {vs : List V} {ds : List D} (n : Nat), Rds K H vs ds → Rds K H (vs.drop n) (ds.drop n)
  | _, _, 0, r => r
  | _, _, _ + 1, .nil => .nil
  | _, _, n + 1, .cons h r => Rds.drop n r
theorem Rds.cut {K : PySem.W.Frag} {H : Hp} {vs : List V} {ds : List D} (r : Rds K H vs ds) (lo hi : Option Int) : Rds K H (cutV vs lo hi) (cutL ds lo hi) := by
  unfold cutV cutL
  rw [r.length]
  exact (r.drop _).take _
def slD (d : D) (lo hi : Option Int) : R D := match d with
  | .lst xs => .ok (.lst (cutL xs lo hi))
  | .str z => if z.length ≤ sizeLine then .ok (.str (cutS z lo hi)) else .st
  | _ => .st
structure VO (X : Cx) (W : WX) (e : Option Expr) (f : Env → R (Option Int)) : Prop where
  po : PO X e (fun σ H Q => ∃ ρ, REnv X.K ρ σ H ∧ Out X.mg W σ H (f ρ) fun o => ∀ H', Same H H' → Q o H')
theorem poW {X : Cx} {e : Option Expr} {t u : TO} (h : PO X e t) (q : ∀ σ H Q, u σ H Q → t σ H Q) : PO X e u := ⟨fun pins s σ H Q I x => h.run pins s σ H Q I (q σ H Q x)⟩
def noO (_ : Env) : R (Option Int) := .ok none
def someO (f : Env → R D) (ρ : Env) : R (Option Int) := (f ρ).bind fun d => match d with | .int i => .ok (some i) | _ => .st
theorem vo_none : VO X W none noO := ⟨poW po_none fun σ H Q ⟨ρ, re, o⟩ => o H (Same.refl H)⟩
theorem vo_some (ha : VE X W a f) : VO X W (some a) (someO f) := ⟨poW (po_some ha.pe) fun σ H Q ⟨ρ, re, o⟩ => ⟨ρ, re, (Out.bind o).mono fun d _ q v H1 s1 r1 => by
  cases r1 with
  | int i => exact ⟨i, rfl, q H1 s1⟩
  | _ => exact q.elim⟩⟩
def slE (f : Env → R D) (lo hi : Env → R (Option Int)) (ρ : Env) : R D := (f ρ).bind fun d => (lo ρ).bind fun l => (hi ρ).bind fun u => slD d l u
def rSlA (K : PySem.W.Frag) : V → Option Int → Option Int → Hp → VK → Prop := fun x lo hi H Q => rSlL K x lo hi H Q ∨ rSlS x lo hi H Q
theorem sl_any : SlR X (rSlA X.K) := sl_list.or sl_str
theorem ve_sl {lo hi : Option Expr} {l u : Env → R (Option Int)} {p2 : Pos} (ha : VE X W a f) (hl : VO X W lo l) (hu : VO X W hi u) : VE X W (.Subscript a (.Slice lo hi none p2) pos) (slE f l u) :=
  ⟨peW (pe_slice sl_any ha.pe hl.po hu.po) fun σ H Q ⟨ρ, re, o⟩ => ⟨ρ, re, (Out.bind o).mono fun d _ q v H1 s1 r1 => ⟨ρ, re.mono s1, ((Out.bind q).up s1).mono fun l _ q H2 s2 => ⟨ρ, re.mono (s1.trans s2), ((Out.bind q).up (s1.trans s2)).mono fun u _ q H3 s3 => by
    unfold slD at q
    split at q
    · cases r1 with
      | lst h1 r1 =>
        refine .inl ⟨_, _, rfl, (s2.trans s3).seq h1, fun p hp => ?_⟩
        exact q _ _ ((s1.trans (s2.trans s3)).trans (new_same hp)) (.lst (SqL.of upd_same) ((r1.mono ((s2.trans s3).trans (new_same hp))).cut _ _))
    · split at q
      · rename_i hz
        cases r1
        exact .inr ⟨_, rfl, hz, q _ H3 (s1.trans (s2.trans s3)) (.str _)⟩
      · exact q.elim
    · exact q.elim⟩⟩⟩⟩
/-- a slice of what is no list within: new -/
def immL : D → R D
  | .lst xs => if immDs xs = true then .ok (.lst xs) else .st
  | d => if immD d = true then .ok d else .st
def slG (f : Env → R D) (lo hi : Env → R (Option Int)) (ρ : Env) : R D := (slE f lo hi ρ).bind immL
theorem vg_sl {lo hi : Option Expr} {l u : Env → R (Option Int)} {p2 : Pos} (ha : VE X W a f) (hl : VO X W lo l) (hu : VO X W hi u) : VG X W (.Subscript a (.Slice lo hi none p2) pos) (slG f l u) :=
  ⟨peW (pe_slice sl_any ha.pe hl.po hu.po) fun σ H Q ⟨ρ, re, o⟩ => ⟨ρ, re, (Out.bind (show Out X.mg W σ H (slE f l u ρ) _ from Out.bind o)).mono fun d _ q v H1 s1 r1 => ⟨ρ, re.mono s1, ((Out.bind q).up s1).mono fun l _ q H2 s2 => ⟨ρ, re.mono (s1.trans s2), ((Out.bind q).up (s1.trans s2)).mono fun u _ q H3 s3 => by
    unfold slD at q
    split at q
    · cases r1 with
      | lst h1 r1 =>
        refine .inl ⟨_, _, rfl, (s2.trans s3).seq h1, fun p hp => ?_⟩
        have r4 := (r1.mono (s2.trans s3)).cut l u
        generalize cutL _ l u = ys at q r4
        have q : Out X.mg W σ H (if immDs ys = true then R.ok (D.lst ys) else R.st) _ := q
        by_cases m : immDs ys = true
        · rw [if_pos m] at q
          exact q _ _ [p] ((s1.trans (s2.trans s3)).trans (new_same hp)) (fu_new_lst hp r4 m) fun a ha => by
            rw [List.mem_singleton.mp ha]; exact (s1.trans (s2.trans s3)).free hp
        · rw [if_neg m] at q
          exact q.elim
    · split at q
      · rename_i hz
        cases r1
        have q : Out X.mg W σ H (R.ok (D.str (cutS _ l u))) _ := q
        exact .inr ⟨_, rfl, hz, q _ H3 [] (s1.trans (s2.trans s3)) (.str _) (fun _ h => nomatch h)⟩
      · exact q.elim
    · exact q.elim⟩⟩⟩⟩

/-! ### displays -/
def LenA (f : Env → R (List D)) (n : Nat) : Prop := ∀ ρ ds, f ρ = .ok ds → ds.length = n
theorem len_nil : LenA nilA 0 := fun ρ ds h => by cases h; rfl
theorem len_cons {n : Nat} (h : LenA fs n) : LenA (consA f fs) (n + 1) := fun ρ ds e => by
  unfold consA at e
  cases h1 : f ρ with
  | ok d =>
    rw [h1] at e
    cases h2 : fs ρ with
    | ok es =>
      rw [R.bind_ok, h2, R.bind_ok] at e
      cases e
      rw [List.length_cons, h ρ es h2]
    | st => rw [R.bind_ok, h2] at e; cases e
    | ex c => rw [R.bind_ok, h2] at e; cases e
  | st => rw [h1] at e; cases e
  | ex c => rw [h1] at e; cases e
def lstE (fs : Env → R (List D)) (ρ : Env) : R D := (fs ρ).bind fun ds => .ok (.lst ds)
def tupE (fs : Env → R (List D)) (ρ : Env) : R D := (fs ρ).bind fun ds => .ok (.tup ds)
theorem le_line {n m : Nat} (h : m = n) (k : n ≤ 1000) : m ≤ sizeLine := by rw [h]; exact Nat.le_trans k (by decide)
theorem ve_tup {n : Nat} {x1} (ha : VA X W es fs) (hl : LenA fs n) (hn : n ≤ 1000 := by decide) : VE X W (.Tuple es x1 pos) (tupE fs) := ⟨peW (pe_tup ha.pa) fun σ H Q ⟨ρ, re, o⟩ => ⟨ρ, re, (Out.bind o).mono fun ds hd q vs H1 s1 r1 =>
  ⟨le_line (r1.length.trans (hl ρ ds hd)) hn, fun p hp => q _ _ (s1.trans (new_same hp)) (.tup upd_same (r1.mono (new_same hp)))⟩⟩⟩
theorem vg_tup {n : Nat} {x1} (ha : VB X W es fs) (hl : LenA fs n) (hn : n ≤ 1000 := by decide) : VG X W (.Tuple es x1 pos) (tupE fs) := ⟨peW (pe_tup ha.pa) fun σ H Q ⟨ρ, re, o⟩ => ⟨ρ, re, (Out.bind o).mono fun ds hd q vs H1 A s1 r1 n1 =>
  ⟨le_line (r1.length.trans (hl ρ ds hd)) hn, fun p hp => q _ _ A (s1.trans (new_same hp)) (.tup upd_same (r1.same (new_same hp))) n1⟩⟩⟩
theorem ve_lst {n : Nat} (ha : VA X W es fs) (hl : LenA fs n) (hn : n ≤ 1000 := by decide) : VE X W (.List es pos) (lstE fs) := ⟨peW (pe_lst ha.pa) fun σ H Q ⟨ρ, re, o⟩ => ⟨ρ, re, (Out.bind o).mono fun ds hd q vs H1 s1 r1 =>
  ⟨le_line (r1.length.trans (hl ρ ds hd)) hn, fun p hp => q _ _ (s1.trans (new_same hp)) (.lst (SqL.of upd_same) (r1.mono (new_same hp)))⟩⟩⟩
theorem vg_lst {n : Nat} (ha : VB X W es fs) (hl : LenA fs n) (hn : n ≤ 1000 := by decide) : VG X W (.List es pos) (lstE fs) := ⟨peW (pe_lst ha.pa) fun σ H Q ⟨ρ, re, o⟩ => ⟨ρ, re, (Out.bind o).mono fun ds hd q vs H1 A s1 r1 n1 =>
  ⟨le_line (r1.length.trans (hl ρ ds hd)) hn, fun p hp => q _ _ (p :: A) (s1.trans (new_same hp)) (.lst upd_same (r1.same (new_same hp)) fun m => by obtain ⟨o, ho⟩ := r1.there p m; rw [ho] at hp; cases hp)
    fun a m => (List.mem_cons.mp m).elim (fun z => by rw [z]; exact s1.free hp) fun z => n1 a z⟩⟩⟩

/-! ### truths -/
def boolR (f : Env → R D) (ρ : Env) : R Bool := (f ρ).bind fun d => match d with | .bl b => .ok b | _ => .st
def andE (f g : Env → R D) (ρ : Env) : R D := (boolR f ρ).bind fun b => if b = true then g ρ else .ok (.bl false)
def orE (f g : Env → R D) (ρ : Env) : R D := (boolR f ρ).bind fun b => if b = true then .ok (.bl true) else g ρ
def notE (f : Env → R D) (ρ : Env) : R D := (boolR f ρ).bind fun b => .ok (.bl (!b))
theorem boolR_out {σ : L2.St} {H : Hp} {ρ : Env} {P : Bool → Prop} (o : Out X.mg W σ H (boolR f ρ) P) : Out X.mg W σ H (f ρ) fun d => ∃ b, d = .bl b ∧ P b := by
  unfold boolR at o
  refine (Out.bind o).mono fun d _ q => ?_
  cases d with
  | bl b => exact ⟨b, rfl, q⟩
  | _ => exact q.elim
theorem vg_one {op} (ha : VG X W a f) : VG X W (.BoolOp op [a] pos) f := ⟨pe_one ha.pe⟩
theorem vg_and {rest : List Expr} (ha : VE X W a f) (hb : VG X W (.BoolOp .And (b :: rest) pos) g) : VG X W (.BoolOp .And (a :: b :: rest) pos) (andE f g) :=
  ⟨peW (pe_and ha.pe hb.pe) fun σ H Q ⟨ρ, re, o⟩ => ⟨ρ, re, (boolR_out (Out.bind o)).mono fun d _ ⟨k, e, q⟩ v H1 s1 r1 => by
    subst e
    cases r1
    refine ⟨k, rfl, ?_⟩
    cases k with
    | true =>
      rw [if_pos rfl] at q ⊢
      exact ⟨ρ, re.mono s1, (q.up s1).mono fun d _ q v H2 A s2 f2 n2 => q v H2 A (s1.trans s2) f2 fun a m => s1.free (n2 a m)⟩
    | false =>
      rw [if_neg Bool.false_ne_true] at q ⊢
      exact q _ H1 [] s1 (.bl _) (fun _ h => nomatch h)⟩⟩
theorem vg_or {rest : List Expr} (ha : VE X W a f) (hb : VG X W (.BoolOp .Or (b :: rest) pos) g) : VG X W (.BoolOp .Or (a :: b :: rest) pos) (orE f g) :=
  ⟨peW (pe_or ha.pe hb.pe) fun σ H Q ⟨ρ, re, o⟩ => ⟨ρ, re, (boolR_out (Out.bind o)).mono fun d _ ⟨k, e, q⟩ v H1 s1 r1 => by
    subst e
    cases r1
    refine ⟨k, rfl, ?_⟩
    cases k with
    | false =>
      rw [if_neg Bool.false_ne_true] at q ⊢
      exact ⟨ρ, re.mono s1, (q.up s1).mono fun d _ q v H2 A s2 f2 n2 => q v H2 A (s1.trans s2) f2 fun a m => s1.free (n2 a m)⟩
    | true =>
      rw [if_pos rfl] at q ⊢
      exact q _ H1 [] s1 (.bl _) (fun _ h => nomatch h)⟩⟩
theorem vg_not (ha : VE X W a f) : VG X W (.UnaryOp .Not a pos) (notE f) :=
  ⟨peW (pe_not ha.pe) fun σ H Q ⟨ρ, re, o⟩ => ⟨ρ, re, (boolR_out (Out.bind o)).mono fun d _ ⟨k, e, q⟩ v H1 s1 r1 => by
    subst e
    cases r1
    exact ⟨k, rfl, q _ H1 [] s1 (.bl _) (fun _ h => nomatch h)⟩⟩⟩

/-! ### tests -/
def andT (f g : Env → R Bool) (ρ : Env) : R Bool := (f ρ).bind fun b => if b = true then g ρ else .ok false
def orT (f g : Env → R Bool) (ρ : Env) : R Bool := (f ρ).bind fun b => if b = true then .ok true else g ρ
def notT (f : Env → R Bool) (ρ : Env) : R Bool := (f ρ).bind fun b => .ok (!b)
theorem vt_val (ha : VE X W a f) (he : ∀ whole, isTrue a X.env whole = (do let v ← whole; standAt a.pos; holding [v] (truthy v)) := by intro _; rfl) : VT X W a (boolR f) :=
  ⟨ptW (pt_val ha.pe he) fun σ H Q ⟨ρ, re, o⟩ => ⟨ρ, re, (boolR_out o).mono fun d _ ⟨k, e, q⟩ v H1 s1 r1 => by
    subst e
    cases r1
    exact ⟨k, rfl, q H1 s1⟩⟩⟩
theorem tTest_of {r : R2} {gd : D → D → R D} (k : OpD X r gd) (n : NoEx2 gd) {σ : L2.St} {H : Hp} {Q : Bool → Hp → Prop} (hh : tT X.K X.mg W (boolR (op2 gd f g)) σ H Q) : tTest (tOp r (tF X.K X.mg W f) (tF X.K X.mg W g)) σ H Q := by
  obtain ⟨ρ, re, o⟩ := hh
  refine tOp_of k n ⟨ρ, re, (boolR_out o).mono fun d _ ⟨k, e, q⟩ v H1 A s1 f1 n1 => ?_⟩
  subst e
  cases f1
  exact ⟨k, rfl, q H1 s1⟩
theorem vt_cmp {op : CmpOp} {r : R2} {gd : D → D → R D} (ho : OpR X (compareOp op) r) (k : OpD X r gd) (n : NoEx2 gd) (ha : VE X W a f) (hb : VE X W b g) (hm : behindInMarks op b = false) : VT X W (.Compare a [op] [b] pos) (boolR (op2 gd f g)) :=
  ⟨ptW (pt_cmpR ho ha.pe hb.pe hm) fun σ H Q q => tTest_of k n q⟩
theorem VW.vt {f : Env → R Bool} (h : VW X W a f) : VT X W a f := ⟨h.pw.pt⟩
theorem vw_and1 {f : Env → R Bool} (ha : VT X W a f) : VW X W (.BoolOp .And [a] pos) f := ⟨pw_and1 ha.pt⟩
theorem vw_or1 {f : Env → R Bool} (ha : VT X W a f) : VW X W (.BoolOp .Or [a] pos) f := ⟨pw_or1 ha.pt⟩
theorem vw_and {f g : Env → R Bool} {rest : List Expr} (ha : VT X W a f) (hb : VW X W (.BoolOp .And (b :: rest) pos) g) : VW X W (.BoolOp .And (a :: b :: rest) pos) (andT f g) :=
  ⟨pwW (pw_and ha.pt hb.pw) fun σ H Q ⟨ρ, re, o⟩ => ⟨ρ, re, (Out.bind o).mono fun k _ q H1 s1 => by
    cases k with
    | true => exact ⟨ρ, re.mono s1, ((show Out X.mg W σ H (g ρ) _ from q).up s1).mono fun k _ q H2 s2 => q H2 (s1.trans s2)⟩
    | false => exact q H1 s1⟩⟩
theorem vw_or {f g : Env → R Bool} {rest : List Expr} (ha : VT X W a f) (hb : VW X W (.BoolOp .Or (b :: rest) pos) g) : VW X W (.BoolOp .Or (a :: b :: rest) pos) (orT f g) :=
  ⟨pwW (pw_or ha.pt hb.pw) fun σ H Q ⟨ρ, re, o⟩ => ⟨ρ, re, (Out.bind o).mono fun k _ q H1 s1 => by
    cases k with
    | true => exact q H1 s1
    | false => exact ⟨ρ, re.mono s1, ((show Out X.mg W σ H (g ρ) _ from q).up s1).mono fun k _ q H2 s2 => q H2 (s1.trans s2)⟩⟩⟩
theorem vt_not {f : Env → R Bool} (ha : VT X W a f) : VT X W (.UnaryOp .Not a pos) (notT f) :=
  ⟨ptW (pt_not ha.pt) fun σ H Q ⟨ρ, re, o⟩ => ⟨ρ, re, (Out.bind o).mono fun k _ q H1 s1 => q H1 s1⟩⟩
/-! ### a if t else b -/
def ifE (t : Env → R Bool) (f g : Env → R D) (ρ : Env) : R D := (t ρ).bind fun b => if b = true then f ρ else g ρ
theorem ve_if {t : Env → R Bool} (hc : VT X W c t) (ha : VE X W a f) (hb : VE X W b g) : VE X W (.IfExp c a b pos) (ifE t f g) :=
  ⟨peW (pe_ifExp hc.pt ha.pe hb.pe) fun σ H Q ⟨ρ, re, o⟩ => ⟨ρ, re, (Out.bind o).mono fun k _ q H1 s1 => by
    cases k with
    | true => exact ⟨ρ, re.mono s1, ((show Out X.mg W σ H (f ρ) _ from q).up s1).mono fun d _ q v H2 s2 r2 => q v H2 (s1.trans s2) r2⟩
    | false => exact ⟨ρ, re.mono s1, ((show Out X.mg W σ H (g ρ) _ from q).up s1).mono fun d _ q v H2 s2 r2 => q v H2 (s1.trans s2) r2⟩⟩⟩

/-! ### a < b < c -/
def chD (gd gd' : D → D → R D) (f g h : Env → R D) (ρ : Env) : R D := (f ρ).bind fun x => (g ρ).bind fun y => (gd x y).bind fun z => match z with
  | .bl true => (h ρ).bind fun w => gd' y w
  | .bl false => .ok (.bl false)
  | _ => .st
theorem tCh_of {r r' : R2} {gd gd' : D → D → R D} (k : OpD X r gd) (n : NoEx2 gd) (k' : OpD X r' gd') (n' : NoEx2 gd') {σ : L2.St} {H : Hp} {Q : VK} (hh : tG X.K X.mg W (chD gd gd' f g h) σ H Q) :
    tChain r r' (tF X.K X.mg W f) (tF X.K X.mg W g) (tF X.K X.mg W h) σ H Q := by
  obtain ⟨ρ, re, o⟩ := hh
  refine ⟨ρ, re, (Out.bind o).mono fun x _ q v H1 s1 r1 => ?_⟩
  refine ⟨ρ, re.mono s1, ((Out.bind q).up s1).mono fun y _ q w H2 s2 r2 => ?_⟩
  have q := Out.bind q
  cases hz : gd x y with
  | ok z =>
    rw [hz] at q
    have q : Out X.mg W σ H (match z with | .bl true => (h ρ).bind fun w => gd' y w | .bl false => .ok (.bl false) | _ => .st) _ := q
    refine k v w x y H2 _ z (r1.mono s2) r2 hz fun u H3 A s3 f3 n3 => ?_
    cases f3 with
    | bl b =>
      refine ⟨b, rfl, ?_⟩
      cases b with
      | true =>
        refine ⟨ρ, re.mono ((s1.trans s2).trans s3), ((Out.bind q).up ((s1.trans s2).trans s3)).mono fun e _ q t H4 s4 r4 => ?_⟩
        cases hz' : gd' y e with
        | ok z' =>
          rw [hz'] at q
          exact k' w t y e H4 Q z' (r2.mono (s3.trans s4)) r4 hz' fun u H5 A s5 f5 n5 => q u H5 A ((((s1.trans s2).trans s3).trans s4).trans s5) f5 fun a ha => (((s1.trans s2).trans s3).trans s4).free (n5 a ha)
        | ex c => exact absurd hz' (n' y e c)
        | st => rw [hz'] at q; exact q.elim
      | false => exact q _ H3 [] ((s1.trans s2).trans s3) (.bl _) (fun _ h => nomatch h)
    | _ => exact q.elim
  | ex c => exact absurd hz (n x y c)
  | st => rw [hz] at q; exact q.elim
theorem vg_ch {op op' : CmpOp} {r r' : R2} {gd gd' : D → D → R D} (ho : OpR X (compareOp op) r) (ho' : OpR X (compareOp op') r') (k : OpD X r gd) (n : NoEx2 gd) (k' : OpD X r' gd') (n' : NoEx2 gd') (ha : VE X W a f) (hb : VE X W b g) (hc : VE X W c h)
    (hm : lastMarks [op, op'] [b, c] = false := by with_unfolding_all rfl) : VG X W (.Compare a [op, op'] [b, c] pos) (chD gd gd' f g h) := ⟨peW (pe_chain ho ho' ha.pe hb.pe hc.pe hm) fun σ H Q q => tCh_of k n k' n' q⟩
theorem vt_ch {op op' : CmpOp} {r r' : R2} {gd gd' : D → D → R D} (ho : OpR X (compareOp op) r) (ho' : OpR X (compareOp op') r') (k : OpD X r gd) (n : NoEx2 gd) (k' : OpD X r' gd') (n' : NoEx2 gd') (ha : VE X W a f) (hb : VE X W b g) (hc : VE X W c h)
    (hm : lastMarks [op, op'] [b, c] = false := by with_unfolding_all rfl) : VT X W (.Compare a [op, op'] [b, c] pos) (boolR (chD gd gd' f g h)) := ⟨ptW (pt_chain ho ho' ha.pe hb.pe hc.pe hm) fun σ H Q ⟨ρ, re, o⟩ =>
  tCh_of k n k' n' ⟨ρ, re, (boolR_out o).mono fun d _ ⟨kk, e, q⟩ v H1 A s1 f1 n1 => by subst e; cases f1; exact ⟨kk, rfl, q H1 s1⟩⟩⟩
end
end Vs

namespace Vs
open PySem PySem.Spec PyProof.Rows L2

/-! ### built-in functions -/
def CbD (X : Cx) (r : List V → Hp → VK → Prop) (g : List D → R D) : Prop := ∀ (vs : List V) (ds : List D) (H : Hp) (Q : VK) (z : D), Rds X.K H vs ds → g ds = .ok z → (∀ v H' A, Same H H' → Fu X.K H' v z A → (∀ a ∈ A, H a = none) → Q v H') → r vs H Q
def NoEx1 (g : List D → R D) : Prop := ∀ ds c, g ds ≠ .ex c
def callB (g : List D → R D) (fs : Env → R (List D)) (ρ : Env) : R D := (fs ρ).bind g
section
variable {X : Cx} {W : WX} {e : Expr} {es : List Expr} {fs : Env → R (List D)} {x : Str} {p pos : Pos} {id T : String} {r : List V → Hp → VK → Prop} {g : List D → R D}
theorem tCB_of (k : CbD X r g) (n : NoEx1 g) {σ : L2.St} {H : Hp} {Q : VK} (h : tG X.K X.mg W (callB g fs) σ H Q) : tCB r (tFs X.K X.mg W fs) σ H Q := by
  obtain ⟨ρ, re, o⟩ := h
  refine ⟨ρ, re, (Out.bind o).mono fun ds _ q vs H1 s1 r1 => ?_⟩
  cases hz : g ds with
  | ok z =>
    rw [hz] at q
    exact k vs ds H1 Q z r1 hz fun v H2 A s2 f2 n2 => q v H2 A (s1.trans s2) f2 fun a m => s1.free (n2 a m)
  | ex c => exact absurd hz (n ds c)
  | st => rw [hz] at q; exact q.elim
theorem vg_callB (hc : CallR X (.builtin id) r) (k : CbD X r g) (n : NoEx1 g) (hg : Gl X x) (hm : X.mg x = none) (hv : bootBuiltins x = some (.builtin id)) (ha : VA X W (e :: es) fs) (hn : x ≠ "__name__" := by decide) (hdb : (x == ("__debug__" : Str)) = false := by decide)
    (he : starEach (e :: es) X.env = (false, eval e X.env) :: starEach es X.env := by rfl) (hpl : (backTo pos (starEach es X.env)).any (·.1) = false := by rfl) : VG X W (.Call (.Name x p) (e :: es) [] pos) (callB g fs) :=
  ⟨peW (pe_callB hc hg hm hv ha.pa hn hdb he hpl) fun σ H Q q => tCB_of k n q⟩
theorem vg_callTy (hc : CallR X (.type T) r) (k : CbD X r g) (n : NoEx1 g) (hg : Gl X x) (hm : X.mg x = none) (hv : bootBuiltins x = some (.type T)) (ha : VA X W (e :: es) fs) (hn : x ≠ "__name__" := by decide) (hdb : (x == ("__debug__" : Str)) = false := by decide)
    (he : starEach (e :: es) X.env = (false, eval e X.env) :: starEach es X.env := by rfl) (hpl : (backTo pos (starEach es X.env)).any (·.1) = false := by rfl) : VG X W (.Call (.Name x p) (e :: es) [] pos) (callB g fs) :=
  ⟨peW (pe_callTy hc hg hm hv ha.pa hn hdb he hpl) fun σ H Q q => tCB_of k n q⟩
end

def lenD : List D → R D
  | [.lst xs] => .ok (.int xs.length)
  | [.tup xs] => .ok (.int xs.length)
  | [.str z] => if z.length ≤ sizeLine then .ok (.int z.length) else .st
  | _ => .st
def absD : List D → R D
  | [.int i] => .ok (.int (if i < 0 then -i else i))
  | _ => .st
/-- ints of data -/
def intsO : List D → Option (List Int)
  | [] => some []
  | .int i :: r => (intsO r).map (i :: ·)
  | _ => none
def maxI (i j : Int) : Int := if j > i then j else i
def minI (i j : Int) : Int := if j < i then j else i
def maxL : List Int → Int
  | [] => 0
  | x :: r => r.foldl maxI x
def minL : List Int → Int
  | [] => 0
  | x :: r => r.foldl minI x
def maxD : List D → R D
  | [.int i, .int j] => .ok (.int (maxI i j))
  | [.lst xs] => match intsO xs with
    | some (n :: ns) => .ok (.int (maxL (n :: ns)))
    | _ => .st
  | _ => .st
def minD : List D → R D
  | [.int i, .int j] => .ok (.int (minI i j))
  | [.lst xs] => match intsO xs with
    | some (n :: ns) => .ok (.int (minL (n :: ns)))
    | _ => .st
  | _ => .st
def sumD : List D → R D
  | [.lst xs] => match intsO xs with
    | some ns => .ok (.int ns.sum)
    | none => .st
  | _ => .st
def bls : List D → Option (List Bool)
  | [] => some []
  | .bl i :: r => (bls r).map (i :: ·)
  | _ => none
def allD : List D → R D
  | [.lst xs] => match bls xs with
    | some bs => .ok (.bl (bs.all id))
    | none => .st
  | _ => .st
def anyD : List D → R D
  | [.lst xs] => match bls xs with
    | some bs => .ok (.bl (bs.any id))
    | none => .st
  | _ => .st
def intD : List D → R D
  | [.int i] => .ok (.int i)
  | [.bl k] => .ok (.int (if k then 1 else 0))
  | _ => .st
def strD : List D → R D
  | [.int i] => if i.natAbs.log2 < 1920 then .ok (.str (toString i)) else .st
  | _ => .st
def listD : List D → R D
  | [.lst xs] => if immDs xs = true then .ok (.lst xs) else .st
  | [.tup xs] => if immDs xs = true then .ok (.lst xs) else .st
  | _ => .st
def tupleD : List D → R D
  | [.lst xs] => if immDs xs = true then .ok (.tup xs) else .st
  | [.tup xs] => if immDs xs = true then .ok (.tup xs) else .st
  | _ => .st
def divmodD : List D → R D
  | [.int i, .int j] => if 0 < j ∧ j < 1073741824 then .ok (.tup [.int (i / j), .int (i % j)]) else .st
  | _ => .st
theorem maxI_foldl : ∀ (r : List Int) (x : Int), r.foldl maxI x ∈ x :: r ∧ ∀ y ∈ x :: r, y ≤ r.foldl maxI x
  | [], x => ⟨by simp, by simp⟩
  | z :: r, x => by
    have ih := maxI_foldl r (maxI x z)
    rw [List.foldl_cons]
    have hm : maxI x z = x ∨ maxI x z = z := by unfold maxI; split <;> simp
    have h1 : x ≤ maxI x z ∧ z ≤ maxI x z := by unfold maxI; split <;> constructor <;> omega
    refine ⟨?_, fun y hy => ?_⟩
    · rcases List.mem_cons.mp ih.1 with e | e
      · rw [e]; rcases hm with q | q <;> rw [q] <;> simp
      · simp [e]
    · have h2 := ih.2 (maxI x z) (by simp)
      rcases List.mem_cons.mp hy with e | e
      · subst e; omega
      · rcases List.mem_cons.mp e with e | e
        · subst e; omega
        · exact ih.2 y (by simp [e])
theorem minI_foldl : ∀ (r : List Int) (x : Int), r.foldl minI x ∈ x :: r ∧ ∀ y ∈ x :: r, r.foldl minI x ≤ y
  | [], x => ⟨by simp, by simp⟩
  | z :: r, x => by
    have ih := minI_foldl r (minI x z)
    rw [List.foldl_cons]
    have hm : minI x z = x ∨ minI x z = z := by unfold minI; split <;> simp
    have h1 : minI x z ≤ x ∧ minI x z ≤ z := by unfold minI; split <;> constructor <;> omega
    refine ⟨?_, fun y hy => ?_⟩
    · rcases List.mem_cons.mp ih.1 with e | e
      · rw [e]; rcases hm with q | q <;> rw [q] <;> simp
      · simp [e]
    · have h2 := ih.2 (minI x z) (by simp)
      rcases List.mem_cons.mp hy with e | e
      · subst e; omega
      · rcases List.mem_cons.mp e with e | e
        · subst e; omega
        · exact ih.2 y (by simp [e])
section
variable {K : PySem.W.Frag} {H : Hp}
theorem intsO_rd : ∀ {xs : List D} {ns : List Int} {vs : List V}, intsO xs = some ns → Rds K H vs xs → vs = ns.map V.int
  | [], ns, vs, h, r => by cases h; cases r; rfl
  | .int i :: xs, ns, vs, h, r => by
    rw [intsO] at h
    cases e : intsO xs with
    | none => rw [e] at h; cases h
    | some ms =>
      rw [e] at h
      cases h
      cases r with
      | cons h1 r1 => cases h1; rw [intsO_rd e r1]; rfl
  | .non :: _, _, _, h, _ => by cases h
  | .bl _ :: _, _, _, h, _ => by cases h
  | .str _ :: _, _, _, h, _ => by cases h
  | .lst _ :: _, _, _, h, _ => by cases h
  | .tup _ :: _, _, _, h, _ => by cases h
  | .dic _ _ :: _, _, _, h, _ => by cases h
  | .fn _ :: _, _, _, h, _ => by cases h
  | .exc _ _ :: _, _, _, h, _ => by cases h
  | .obj _ _ _ :: _, _, _, h, _ => by cases h
theorem bls_rd : ∀ {xs : List D} {ns : List Bool} {vs : List V}, bls xs = some ns → Rds K H vs xs → vs = ns.map V.bl
  | [], ns, vs, h, r => by cases h; cases r; rfl
  | .bl i :: xs, ns, vs, h, r => by
    rw [bls] at h
    cases e : bls xs with
    | none => rw [e] at h; cases h
    | some ms =>
      rw [e] at h
      cases h
      cases r with
      | cons h1 r1 => cases h1; rw [bls_rd e r1]; rfl
  | .non :: _, _, _, h, _ => by cases h
  | .int _ :: _, _, _, h, _ => by cases h
  | .str _ :: _, _, _, h, _ => by cases h
  | .lst _ :: _, _, _, h, _ => by cases h
  | .tup _ :: _, _, _, h, _ => by cases h
  | .dic _ _ :: _, _, _, h, _ => by cases h
  | .fn _ :: _, _, _, h, _ => by cases h
  | .exc _ _ :: _, _, _, h, _ => by cases h
  | .obj _ _ _ :: _, _, _, h, _ => by cases h
end
section
variable {X : Cx}
theorem rds1 {K : PySem.W.Frag} {H : Hp} {vs : List V} {d : D} (r : Rds K H vs [d]) : ∃ v, vs = [v] ∧ Rd K H v d := by
  cases r with
  | cons h r => cases r; exact ⟨_, rfl, h⟩
theorem rds2 {K : PySem.W.Frag} {H : Hp} {vs : List V} {d e : D} (r : Rds K H vs [d, e]) : ∃ v w, vs = [v, w] ∧ Rd K H v d ∧ Rd K H w e := by
  cases r with
  | cons h r => cases r with
    | cons h2 r => cases r; exact ⟨_, _, rfl, h, h2⟩
theorem cb_len : CbD X (fun xs H Q => ∃ x n, xs = [x] ∧ LenV X.K x H n ∧ Q (.int n) H) lenD := fun vs ds H Q z r h q => by
  unfold lenD at h
  split at h
  · obtain ⟨v, rfl, h1⟩ := rds1 r
    cases h
    cases h1 with
    | lst h1 r1 => exact ⟨_, _, rfl, .inl ⟨_, h1, rfl⟩, by rw [r1.length]; exact q _ H [] (Same.refl H) (.int _) (fun _ h => nomatch h)⟩
  · obtain ⟨v, rfl, h1⟩ := rds1 r
    cases h
    cases h1 with
    | tup h1 r1 => exact ⟨_, _, rfl, .inr ⟨_, h1.sq, rfl⟩, by rw [r1.length]; exact q _ H [] (Same.refl H) (.int _) (fun _ h => nomatch h)⟩
  · obtain ⟨v, rfl, h1⟩ := rds1 r
    split at h
    · rename_i c
      cases h
      cases h1
      exact ⟨_, _, rfl, ⟨c, rfl⟩, q _ H [] (Same.refl H) (.int _) (fun _ h => nomatch h)⟩
    · cases h
  · cases h
theorem nx_len : NoEx1 lenD := fun ds c h => by unfold lenD at h; split at h <;> first | cases h | (split at h <;> cases h)
theorem cb_abs : CbD X (fun xs H Q => ∃ i, xs = [.int i] ∧ Q (.int (if i < 0 then -i else i)) H) absD := fun vs ds H Q z r h q => by
  unfold absD at h
  split at h
  · obtain ⟨v, rfl, h1⟩ := rds1 r
    cases h
    cases h1
    exact ⟨_, rfl, q _ H [] (Same.refl H) (.int _) (fun _ h => nomatch h)⟩
  · cases h
theorem nx_abs : NoEx1 absD := fun ds c h => by unfold absD at h; split at h <;> cases h
def rMaxA (K : PySem.W.Frag) : List V → Hp → VK → Prop := fun xs H Q => (∃ i j, xs = [.int i, .int j] ∧ Q (.int (if j > i then j else i)) H) ∨ rMax K xs H Q
theorem call_maxA (hc : X.calm = true) : CallR X (.builtin "max") (rMaxA X.K) := (call_max2 hc).or (cr_max hc)
def rMinA (K : PySem.W.Frag) : List V → Hp → VK → Prop := fun xs H Q => (∃ i j, xs = [.int i, .int j] ∧ Q (.int (if j < i then j else i)) H) ∨ rMin K xs H Q
theorem call_minA (hc : X.calm = true) : CallR X (.builtin "min") (rMinA X.K) := (call_min2 hc).or (cr_min hc)
theorem cb_max : CbD X (rMaxA X.K) maxD := fun vs ds H Q z r h q => by
  unfold maxD at h
  split at h
  · obtain ⟨v, w, rfl, h1, h2⟩ := rds2 r
    cases h
    cases h1
    cases h2
    exact .inl ⟨_, _, rfl, q _ H [] (Same.refl H) (.int _) (fun _ h => nomatch h)⟩
  · obtain ⟨v, rfl, h1⟩ := rds1 r
    split at h
    · rename_i n ns e
      cases h
      cases h1 with
      | lst h1 r1 =>
        have ev := intsO_rd e r1
        subst ev
        refine .inr ⟨_, n :: ns, rfl, h1, by simp, fun m hm hy => ?_⟩
        obtain ⟨k1, k2⟩ := maxI_foldl ns n
        have em : m = maxL (n :: ns) := Int.le_antisymm (k2 m hm) (hy _ k1)
        rw [em]
        exact q _ H [] (Same.refl H) (.int _) (fun _ h => nomatch h)
    · cases h
  · cases h
theorem nx_max : NoEx1 maxD := fun ds c h => by unfold maxD at h; split at h <;> first | cases h | (split at h <;> cases h)
theorem cb_min : CbD X (rMinA X.K) minD := fun vs ds H Q z r h q => by
  unfold minD at h
  split at h
  · obtain ⟨v, w, rfl, h1, h2⟩ := rds2 r
    cases h
    cases h1
    cases h2
    exact .inl ⟨_, _, rfl, q _ H [] (Same.refl H) (.int _) (fun _ h => nomatch h)⟩
  · obtain ⟨v, rfl, h1⟩ := rds1 r
    split at h
    · rename_i n ns e
      cases h
      cases h1 with
      | lst h1 r1 =>
        have ev := intsO_rd e r1
        subst ev
        refine .inr ⟨_, n :: ns, rfl, h1, by simp, fun m hm hy => ?_⟩
        obtain ⟨k1, k2⟩ := minI_foldl ns n
        have em : m = minL (n :: ns) := Int.le_antisymm (hy _ k1) (k2 m hm)
        rw [em]
        exact q _ H [] (Same.refl H) (.int _) (fun _ h => nomatch h)
    · cases h
  · cases h
theorem nx_min : NoEx1 minD := fun ds c h => by unfold minD at h; split at h <;> first | cases h | (split at h <;> cases h)
theorem cb_sum : CbD X (rSum X.K) sumD := fun vs ds H Q z r h q => by
  unfold sumD at h
  split at h
  · obtain ⟨v, rfl, h1⟩ := rds1 r
    split at h
    · rename_i ns e
      cases h
      cases h1 with
      | lst h1 r1 =>
        have ev := intsO_rd e r1
        subst ev
        exact ⟨_, ns, rfl, h1, q _ H [] (Same.refl H) (.int _) (fun _ h => nomatch h)⟩
    · cases h
  · cases h
theorem nx_sum : NoEx1 sumD := fun ds c h => by unfold sumD at h; split at h <;> first | cases h | (split at h <;> cases h)
theorem cb_all : CbD X (rAll X.K) allD := fun vs ds H Q z r h q => by
  unfold allD at h
  split at h
  · obtain ⟨v, rfl, h1⟩ := rds1 r
    split at h
    · rename_i ns e
      cases h
      cases h1 with
      | lst h1 r1 =>
        have ev := bls_rd e r1
        subst ev
        exact ⟨_, ns, rfl, h1, q _ H [] (Same.refl H) (.bl _) (fun _ h => nomatch h)⟩
    · cases h
  · cases h
theorem nx_all : NoEx1 allD := fun ds c h => by unfold allD at h; split at h <;> first | cases h | (split at h <;> cases h)
theorem cb_any : CbD X (rAny X.K) anyD := fun vs ds H Q z r h q => by
  unfold anyD at h
  split at h
  · obtain ⟨v, rfl, h1⟩ := rds1 r
    split at h
    · rename_i ns e
      cases h
      cases h1 with
      | lst h1 r1 =>
        have ev := bls_rd e r1
        subst ev
        exact ⟨_, ns, rfl, h1, q _ H [] (Same.refl H) (.bl _) (fun _ h => nomatch h)⟩
    · cases h
  · cases h
theorem nx_any : NoEx1 anyD := fun ds c h => by unfold anyD at h; split at h <;> first | cases h | (split at h <;> cases h)
theorem cb_int : CbD X (fun xs H Q => (∃ i, xs = [.int i] ∧ Q (.int i) H) ∨ ∃ k, xs = [.bl k] ∧ Q (.int (if k then 1 else 0)) H) intD := fun vs ds H Q z r h q => by
  unfold intD at h
  split at h
  · obtain ⟨v, rfl, h1⟩ := rds1 r
    cases h
    cases h1
    exact .inl ⟨_, rfl, q _ H [] (Same.refl H) (.int _) (fun _ h => nomatch h)⟩
  · obtain ⟨v, rfl, h1⟩ := rds1 r
    cases h
    cases h1
    exact .inr ⟨_, rfl, q _ H [] (Same.refl H) (.int _) (fun _ h => nomatch h)⟩
  · cases h
theorem nx_int : NoEx1 intD := fun ds c h => by unfold intD at h; split at h <;> cases h
theorem cb_str : CbD X (fun xs H Q => ∃ i : Int, xs = [.int i] ∧ i.natAbs.log2 < 1920 ∧ Q (.str (toString i)) H) strD := fun vs ds H Q z r h q => by
  unfold strD at h
  split at h
  · obtain ⟨v, rfl, h1⟩ := rds1 r
    split at h
    · rename_i c
      cases h
      cases h1
      exact ⟨_, rfl, c, q _ H [] (Same.refl H) (.str _) (fun _ h => nomatch h)⟩
    · cases h
  · cases h
theorem nx_str : NoEx1 strD := fun ds c h => by unfold strD at h; split at h <;> first | cases h | (split at h <;> cases h)
theorem cb_list : CbD X (fun xs H Q => ∃ p ys, xs = [.ref p] ∧ (SqL X.K H p ys ∨ SqT X.K H p ys) ∧ ∀ l, H l = none → Q (.ref l) (upd H l (.lst ys))) listD := fun vs ds H Q z r h q => by
  unfold listD at h
  split at h
  · obtain ⟨v, rfl, h1⟩ := rds1 r
    split at h
    · rename_i c
      cases h
      cases h1 with
      | lst h1 r1 => exact ⟨_, _, rfl, .inl h1, fun l hl => q _ _ [l] (new_same hl) (fu_new_lst hl r1 c) fun a ha => by rw [List.mem_singleton.mp ha]; exact hl⟩
    · cases h
  · obtain ⟨v, rfl, h1⟩ := rds1 r
    split at h
    · rename_i c
      cases h
      cases h1 with
      | tup h1 r1 => exact ⟨_, _, rfl, .inr h1.sq, fun l hl => q _ _ [l] (new_same hl) (fu_new_lst hl r1 c) fun a ha => by rw [List.mem_singleton.mp ha]; exact hl⟩
    · cases h
  · cases h
theorem nx_list : NoEx1 listD := fun ds c h => by unfold listD at h; split at h <;> first | cases h | (split at h <;> cases h)
theorem cb_tuple : CbD X (fun xs H Q => ∃ p ys, xs = [.ref p] ∧ ((SqL X.K H p ys ∧ ∀ l, H l = none → Q (.ref l) (upd H l (.tup ys))) ∨ (SqT X.K H p ys ∧ Q (.ref p) H))) tupleD := fun vs ds H Q z r h q => by
  unfold tupleD at h
  split at h
  · obtain ⟨v, rfl, h1⟩ := rds1 r
    split at h
    · rename_i c
      cases h
      cases h1 with
      | lst h1 r1 => exact ⟨_, _, rfl, .inl ⟨h1, fun l hl => q _ _ [] (new_same hl) (fu_new_tup hl r1 c) (fun _ h => nomatch h)⟩⟩
    · cases h
  · obtain ⟨v, rfl, h1⟩ := rds1 r
    split at h
    · rename_i c
      cases h
      cases h1 with
      | tup h1 r1 => exact ⟨_, _, rfl, .inr ⟨h1.sq, q _ H [] (Same.refl H) (.tup h1 (r1.fu c)) (fun _ h => nomatch h)⟩⟩
    · cases h
  · cases h
theorem nx_tuple : NoEx1 tupleD := fun ds c h => by unfold tupleD at h; split at h <;> first | cases h | (split at h <;> cases h)
theorem cb_divmod : CbD X (fun xs H Q => ∃ i j, xs = [.int i, .int j] ∧ CDiv i j ∧ ∀ p, H p = none → Q (.ref p) (upd H p (.tup [.int (i / j), .int (i % j)]))) divmodD := fun vs ds H Q z r h q => by
  unfold divmodD at h
  split at h
  · obtain ⟨v, w, rfl, h1, h2⟩ := rds2 r
    split at h
    · rename_i c
      cases h
      cases h1
      cases h2
      exact ⟨_, _, rfl, c, fun p hp => q _ _ [] (new_same hp) (fu_new_tup hp (.cons (.int _) (.cons (.int _) .nil)) rfl) (fun _ h => nomatch h)⟩
    · cases h
  · cases h
theorem nx_divmod : NoEx1 divmodD := fun ds c h => by unfold divmodD at h; split at h <;> first | cases h | (split at h <;> cases h)
end

/-! ### isinstance(x, T), T a built-in class -/
def clsD : D → String
  | .non => "NoneType"
  | .bl _ => "bool"
  | .int _ => "int"
  | .str _ => "str"
  | .lst _ => "list"
  | .tup _ => "tuple"
  | .dic _ _ => "dict"
  | .fn _ => ""
  | .exc _ _ => ""
  | .obj _ _ _ => ""
def isT (T : String) (d : D) : R D := match d with
  | .fn _ => .st
  | .exc _ _ => .st
  | .obj _ _ _ => .st
  | d => .ok (.bl (T == clsD d || (T == "int" && clsD d == "bool")))
def isiE (T : String) (f : Env → R D) (ρ : Env) : R D := (f ρ).bind (isT T)
def kinds5 (T : String) : Prop := ∀ c ∈ ["NoneType", "bool", "int", "str", "list", "tuple", "dict"], kitB c T = some (T == c || (T == "int" && c == "bool"))
theorem Rd.tyx {K : PySem.W.Frag} {H : Hp} {v : V} {d : D} (r : Rd K H v d) : (isT "int" d = .st ∧ ∀ T, isT T d = .st) ∨ TyX K H v (.type (clsD d)) := by
  cases r with
  | non => exact .inr (.base .non)
  | bl b => exact .inr (.base (.bl b))
  | int i => exact .inr (.base (.int i))
  | str x => exact .inr (.base (.str x))
  | fn n => exact .inl ⟨rfl, fun _ => rfl⟩
  | exc c a => exact .inl ⟨rfl, fun _ => rfl⟩
  | obj _ _ _ _ _ => exact .inl ⟨rfl, fun _ => rfl⟩
  | lst h _ =>
    rcases h with (h | ⟨o, h⟩) | ⟨o, its, n, h1, h2, _⟩
    · exact .inr (.base (.lst h))
    · exact .inr (.base (.frz h))
    · exact .inr (.kList h1 h2)
  | tup h _ => exact .inr (.base (.tup h))
  | dk h _ _ => exact .inr (.base (.dK h))
  | dt h _ _ => exact .inr (.base (.dT h))
section
variable {X : Cx} {W : WX} {a : Expr} {f : Env → R D} {p p2 pos : Pos} {T : String} {x : Str}
theorem vg_isi (k5 : kinds5 T) (hg : Gl X "isinstance") (hm : X.mg "isinstance" = none) (hT : PE X (.Name x p2) (tC (.ty T))) (ha : VE X W a f)
    (he : starEach [a, .Name x p2] X.env = (false, eval a X.env) :: starEach [.Name x p2] X.env := by rfl) (he2 : starEach [.Name x p2] X.env = [(false, eval (.Name x p2) X.env)] := by rfl) (hpl : (backTo pos (starEach [.Name x p2] X.env)).any (·.1) = false := by rfl) : VG X W (.Call (.Name "isinstance" p) [a, .Name x p2] [] pos) (isiE T f) :=
  ⟨peW (pe_callB call_isi hg hm boot_isinstance (pa_cons ha.pe (pa_cons hT pa_nil he2) he) (by decide) (by decide) he hpl) fun σ H Q ⟨ρ, re, o⟩ => ⟨ρ, re, (Out.bind o).mono fun d _ q v H1 s1 r1 => by
    show rIsi X.K [v, .ty T] H1 Q
    rcases r1.tyx with ⟨_, e⟩ | t
    · rw [e] at q
      exact q.elim
    · have nf : isT T d ≠ .st := fun z => by rw [z] at q; exact q.elim
      have ek : kitB (clsD d) T = some (T == clsD d || (T == "int" && clsD d == "bool")) := by
        refine k5 _ ?_
        cases d with
        | fn a => exact absurd rfl nf
        | exc c a => exact absurd rfl nf
        | obj c a b => exact absurd rfl nf
        | _ => simp [clsD]
      refine ⟨v, .ty T, _, _, _, rfl, .ty T, t, kit_ty ek, ?_⟩
      have ei : isT T d = .ok (.bl (T == clsD d || (T == "int" && clsD d == "bool"))) := by
        cases d with
        | fn a => exact absurd rfl nf
        | exc c a => exact absurd rfl nf
        | obj c a b => exact absurd rfl nf
        | _ => rfl
      rw [ei] at q
      exact q _ H1 [] s1 (.bl _) (fun _ h => nomatch h)⟩⟩
end
theorem k5_int : kinds5 "int" := by unfold kinds5; decide +kernel
theorem k5_bool : kinds5 "bool" := by unfold kinds5; decide +kernel
theorem k5_str : kinds5 "str" := by unfold kinds5; decide +kernel
theorem k5_list : kinds5 "list" := by unfold kinds5; decide +kernel
theorem k5_tuple : kinds5 "tuple" := by unfold kinds5; decide +kernel

/-! ### calls of the text's own defs -/
/-- a def that is a function of data: what it hands back is new -/
def spF (K : PySem.W.Frag) (mg : Str → Option Value) (n : Nat) (m : List D → R D) : Sp := fun vs H Q E => vs.length = n ∧ ∃ ds, Rds K H vs ds ∧ match m ds with
  | .ok d => ∀ v H' A, Same H H' → Fu K H' v d A → (∀ a ∈ A, H a = none) → Q v H'
  | .ex c => ∃ C, mg c = some (.ref C) ∧ ∀ H', Same H H' → E (.ref C) none H'
  | .st => False
section
variable {X : Cx} {W : WX} {k n : Nat} {f : Addr} {fd : FuncData} {ps : List Str} {m : List D → R D} {x : Str} {p pos : Pos} {e : Expr} {es : List Expr} {fs : Env → R (List D)}
def callF (m : List D → R D) (fs : Env → R (List D)) (ρ : Env) : R D := (fs ρ).bind m
theorem vg_call (F : FnOk X.prog X.w X.K X.mg X.base (L2.CX X.prog X.w) k f fd ps (spF X.K X.mg n m)) (hr : Room k X.A) (tk : Takes X W) (hg : Gl X x) (hm : X.mg x = some (.ref f)) (hk : PySem.W.keepIn X.K (.ref f) = true) (hb : Binds X.K fd ps [])
    (ha : VA X W (e :: es) fs) (hl : LenA fs n) (hdb : (x == ("__debug__" : Str)) = false := by decide) (he : starEach (e :: es) X.env = (false, eval e X.env) :: starEach es X.env := by rfl) (hpl : (backTo pos (starEach es X.env)).any (·.1) = false := by rfl) :
    VG X W (.Call (.Name x p) (e :: es) [] pos) (callF m fs) := ⟨peW (pe_callS F hr hg hm hk hb (fun σ => passAt tk σ) ha.pa hdb he hpl) fun σ H Q ⟨ρ, re, o⟩ => ⟨ρ, re, (Out.bind o).mono fun ds hd q vs H1 s1 r1 => by
  refine ⟨r1.length.trans (hl ρ ds hd), ds, r1, ?_⟩
  cases hz : m ds with
  | ok d => rw [hz] at q; exact fun v H' A s2 f2 n2 => q v H' A (s1.trans s2) f2 fun a z => s1.free (n2 a z)
  | ex c => rw [hz] at q; obtain ⟨C, h1, h2⟩ := q; exact ⟨C, h1, fun H' s2 => h2 H' (s1.trans s2)⟩
  | st => rw [hz] at q; exact q.elim⟩⟩
end
end Vs

namespace Vs
open PySem PySem.Spec PyProof.Rows L2

/-! ### what never changes -/
def Stt : HO → Prop
  | .tup _ => True
  | .frz _ _ => True
  | _ => False
section
variable {K : PySem.W.Frag} {H H' S : Hp}
mutual
theorem Fu.soft : ∀ {v : V} {d : D} {A : List Addr}, Fu K H v d A → ∀ a ∈ A, ∃ o, H a = some o ∧ ¬ Stt o
  | _, _, _, .non, _, h => nomatch h
  | _, _, _, .bl b, _, h => nomatch h
  | _, _, _, .int i, _, h => nomatch h
  | _, _, _, .str x, _, h => nomatch h
  | _, _, _, .fn n, _, h => nomatch h
  | _, _, _, .exc c a, _, h => nomatch h
  | _, _, _, .lst h r n, a, m => by
    rcases List.mem_cons.mp m with e | m
    · exact ⟨.lst _, e ▸ h, fun z => (show False from z)⟩
    · exact Fus.soft r a m
  | _, _, _, .tup h r, a, m => Fus.soft r a m
  | _, _, _, .dk h q r n, a, m => by
    rcases List.mem_cons.mp m with e | m
    · exact ⟨.dK _, e ▸ h, fun z => (show False from z)⟩
    · exact Fus.soft r a m
  | _, _, _, .dt h q r n, a, m => by
    rcases List.mem_cons.mp m with e | m
    · exact ⟨.dT _, e ▸ h, fun z => (show False from z)⟩
    · exact Fus.soft r a m
  | _, _, _, .obj h h2 nk q r n n2 n3, a, m => by
    rcases List.mem_cons.mp m with e | m
    · exact ⟨.ins _ _ _, e ▸ h, fun z => (show False from z)⟩
    · rcases List.mem_cons.mp m with e | m
      · exact ⟨.own _, e ▸ h2, fun z => (show False from z)⟩
      · exact Fus.soft r a m
theorem Fus.soft : ∀ {vs : List V} {ds : List D} {A : List Addr}, Fus K H vs ds A → ∀ a ∈ A, ∃ o, H a = some o ∧ ¬ Stt o
  | _, _, _, .nil, _, h => nomatch h
  | _, _, _, .cons h r _, a, m => by
    rcases List.mem_append.mp m with m | m
    · exact Fu.soft h a m
    · exact Fus.soft r a m
end
open Classical in
/-- S, and what of H never changes, and what stands at A -/
noncomputable def ext (S H : Hp) (A : List Addr) : Hp := fun a => match S a with
  | some o => some o
  | none => match H a with
    | some o => if Stt o ∨ a ∈ A then some o else none
    | none => none
theorem ext_s (A : List Addr) : Same S (ext S H A) := fun b o e => by unfold ext; rw [e]
theorem ext_h (s : Same S H) (A : List Addr) : Same (ext S H A) H := fun b o e => by
  unfold ext at e
  cases q : S b with
  | some u => rw [q] at e; cases e; exact s b _ q
  | none =>
    rw [q] at e
    cases q' : H b with
    | some u =>
      rw [q'] at e
      simp only at e
      split at e
      · exact e
      · cases e
    | none => rw [q'] at e; cases e
theorem ext_none {A : List Addr} {a : Addr} (h : S a = none) (n : a ∉ A) (t : ∀ o, H a = some o → ¬ Stt o) : ext S H A a = none := by
  unfold ext
  rw [h]
  cases q : H a with
  | some o =>
    simp only
    rw [if_neg fun z => z.elim (t o q) n]
  | none => rfl
theorem ext_stt (s : Same S H) {A : List Addr} {a : Addr} {o : HO} (h : H a = some o) (t : Stt o) : ext S H A a = some o := by
  unfold ext
  cases q : S a with
  | some u => rw [s a u q] at h; exact h
  | none =>
    rw [h]
    simp only
    rw [if_pos (.inl t)]
theorem ext_at (s : Same S H) {A : List Addr} {a : Addr} {o : HO} (h : H a = some o) (t : a ∈ A) : ext S H A a = some o := by
  unfold ext
  cases q : S a with
  | some u => rw [s a u q] at h; exact h
  | none =>
    rw [h]
    simp only
    rw [if_pos (.inr t)]
theorem ext_seqT (s : Same S H) {A : List Addr} {a : Addr} {xs : List V} (h : TpT K H a xs) : TpT K (ext S H A) a xs := ext_stt s h trivial
mutual
theorem Fu.ext (s : Same S H) {B : List Addr} : ∀ {v : V} {d : D} {A : List Addr}, Fu K H v d A → (∀ a ∈ A, a ∈ B) → Rd K (ext S H B) v d
  | _, _, _, .non, _ => .non
  | _, _, _, .bl b, _ => .bl b
  | _, _, _, .int i, _ => .int i
  | _, _, _, .str x, _ => .str x
  | _, _, _, .fn n, _ => .fn n
  | _, _, _, .exc c a, _ => .exc c a
  | _, _, _, .lst h r n, k => .lst (SqL.of (ext_at s h (k _ List.mem_cons_self))) (Fus.ext s r fun a m => k a (List.mem_cons_of_mem _ m))
  | _, _, _, .tup h r, k => .tup (ext_seqT s h) (Fus.ext s r k)
  | _, _, _, .dk h q r n, k => .dk (ext_at s h (k _ List.mem_cons_self)) q (Fus.ext s r fun a m => k a (List.mem_cons_of_mem _ m))
  | _, _, _, .dt h q r n, k => .dt (ext_at s h (k _ List.mem_cons_self)) q (Fus.ext s r fun a m => k a (List.mem_cons_of_mem _ m))
  | _, _, _, .obj h h2 nk q r n n2 n3, k => .obj (ext_at s h (k _ List.mem_cons_self)) (ext_at s h2 (k _ (List.mem_cons_of_mem _ List.mem_cons_self))) nk q (Fus.ext s r fun a m => k a (List.mem_cons_of_mem _ (List.mem_cons_of_mem _ m)))
theorem Fus.ext (s : Same S H) {B : List Addr} : ∀ {vs : List V} {ds : List D} {A : List Addr}, Fus K H vs ds A → (∀ a ∈ A, a ∈ B) → Rds K (ext S H B) vs ds
  | _, _, _, .nil, _ => .nil
  | _, _, _, .cons h r _, k => .cons (Fu.ext s h fun a m => k a (List.mem_append_left _ m)) (Fus.ext s r fun a m => k a (List.mem_append_right _ m))
end
end

/-! ### the state between two statements -/
/-- S: what stays; F i: the lists of slot i, its own (i in own) -/
structure Stx (own : List Nat) (K : PySem.W.Frag) (S : Hp) (F : Nat → List Addr) (ρ : Env) (σ : L2.St) (H : Hp) : Prop where
  len : ρ.length = σ.length
  sub : Same S H
  cl : ∀ a o, H a = some o → Stt o → S a = some o
  val : ∀ (i : Nat) (d : D), ρ[i]? = some (some d) → ∃ v, σ[i]? = some (some v) ∧ (i ∈ own → Fu K H v d (F i)) ∧ (i ∉ own → Rd K S v d)
  out : ∀ i ∈ own, ∀ a ∈ F i, S a = none ∧ ∃ o, H a = some o ∧ ¬ Stt o
  dis : ∀ i ∈ own, ∀ j ∈ own, i ≠ j → ∀ a ∈ F i, a ∉ F j
def Sta (own : List Nat) (B : Hp) (K : PySem.W.Frag) (ρ : Env) (σ : L2.St) (H : Hp) : Prop := ∃ S F, Same B S ∧ Stx own K S F ρ σ H
section
variable {K : PySem.W.Frag} {H H' S B B' : Hp} {own own' : List Nat} {F : Nat → List Addr} {ρ : Env} {σ : L2.St}
theorem Stx.env (h : Stx own K S F ρ σ H) : REnv K ρ σ H := ⟨h.len, fun i d q => by
  obtain ⟨v, h1, h2, h3⟩ := h.val i d q
  by_cases m : i ∈ own
  · exact ⟨v, h1, (h2 m).rd⟩
  · exact ⟨v, h1, (h3 m).mono h.sub⟩⟩
theorem Sta.env (h : Sta own B K ρ σ H) : REnv K ρ σ H := let ⟨_, _, _, x⟩ := h; x.env
theorem Sta.base (h : Sta own B K ρ σ H) : Same B H := let ⟨_, _, b, x⟩ := h; b.trans x.sub
theorem Sta.down (h : Sta own B' K ρ σ H) (s : Same B B') : Sta own B K ρ σ H := let ⟨S, F, b, x⟩ := h; ⟨S, F, s.trans b, x⟩
/-- the heap has grown -/
theorem Stx.grow (h : Stx own K S F ρ σ H) (s : Same H H') {A : List Addr} (hA : ∀ a ∈ A, H a = none) : Stx own K (ext S H' A) F ρ σ H' := by
  have sS : Same S H' := h.sub.trans s
  refine ⟨h.len, ext_h sS A, fun a o e t => ext_stt sS e t, fun i d q => ?_, fun i m a ha => ?_, h.dis⟩
  · obtain ⟨v, h1, h2, h3⟩ := h.val i d q
    exact ⟨v, h1, fun m => (h2 m).same s, fun m => (h3 m).mono (ext_s A)⟩
  · obtain ⟨h1, o, h2, h3⟩ := h.out i m a ha
    refine ⟨ext_none h1 (fun z => ?_) (fun o' e => ?_), o, s a o h2, h3⟩
    · rw [hA a z] at h2; cases h2
    · rw [s a o h2] at e; cases e; exact h3
theorem Sta.grow (h : Sta own B K ρ σ H) (s : Same H H') : Sta own B K ρ σ H' :=
  let ⟨_, _, b, x⟩ := h
  ⟨_, _, b.trans (ext_s []), x.grow s (fun _ z => nomatch z)⟩
theorem get_set {α : Type} {l : List α} {i j : Nat} {x y : α} (h : (l.set i x)[j]? = some y) : (j = i ∧ x = y ∧ i < l.length) ∨ (j ≠ i ∧ l[j]? = some y) := by
  rw [List.getElem?_set] at h
  by_cases e : i = j
  · subst e
    rw [if_pos rfl] at h
    split at h
    · rename_i hl
      exact .inl ⟨rfl, Option.some.inj h, hl⟩
    · cases h
  · rw [if_neg e] at h
    exact .inr ⟨Ne.symm e, h⟩
/-- a slot takes a new thing, its own -/
theorem Stx.put (h : Stx own K S F ρ σ H) {v : V} {d : D} {A : List Addr} (s : Same H H') (f : Fu K H' v d A) (hA : ∀ a ∈ A, H a = none) (i : Nat) :
    Stx (i :: own) K (ext S H' []) (fun j => if j = i then A else F j) (ρ.set i (some d)) (σ.set i (some v)) H' := by
  have g := h.grow s (A := []) (fun _ z => nomatch z)
  have sS : Same S H' := h.sub.trans s
  refine ⟨by rw [List.length_set, List.length_set]; exact h.len, g.sub, g.cl, fun j e q => ?_, fun j m a ha => ?_, fun j mj k mk ne a ha => ?_⟩
  · rcases get_set q with ⟨rfl, e1, hl⟩ | ⟨ne, q⟩
    · cases e1
      refine ⟨v, ?_, fun _ => ?_, fun m => absurd List.mem_cons_self m⟩
      · rw [List.getElem?_set_self (by rw [← h.len]; exact hl)]
      · rw [if_pos rfl]; exact f
    · obtain ⟨u, h1, h2, h3⟩ := g.val j e q
      refine ⟨u, by rw [List.getElem?_set_ne (Ne.symm ne)]; exact h1, fun m => ?_, fun m => h3 fun z => m (List.mem_cons_of_mem _ z)⟩
      rw [if_neg ne]
      exact h2 ((List.mem_cons.mp m).resolve_left ne)
  · by_cases e : j = i
    · rw [if_pos e] at ha
      obtain ⟨o, h1, h2⟩ := f.soft a ha
      refine ⟨ext_none (h.sub.free (hA a ha)) (fun z => nomatch z) (fun o' e' => ?_), o, h1, h2⟩
      rw [h1] at e'; cases e'; exact h2
    · rw [if_neg e] at ha
      exact g.out j ((List.mem_cons.mp m).resolve_left e) a ha
  · intro hk
    by_cases ej : j = i
    · rw [if_pos ej] at ha
      have ek : k ≠ i := fun z => ne (ej.trans z.symm)
      rw [if_neg ek] at hk
      obtain ⟨_, o, h1, _⟩ := h.out k ((List.mem_cons.mp mk).resolve_left ek) a hk
      rw [hA a ha] at h1; cases h1
    · rw [if_neg ej] at ha
      by_cases ek : k = i
      · rw [if_pos ek] at hk
        obtain ⟨_, o, h1, _⟩ := h.out j ((List.mem_cons.mp mj).resolve_left ej) a ha
        rw [hA a hk] at h1; cases h1
      · rw [if_neg ek] at hk
        exact h.dis j ((List.mem_cons.mp mj).resolve_left ej) k ((List.mem_cons.mp mk).resolve_left ek) ne a ha hk
/-- a slot that owns nothing takes a thing that stays -/
theorem Stx.lay (h : Stx own K S F ρ σ H) {v : V} {d : D} {i : Nat} (hi : i ∉ own) (r : Rd K S v d) : Stx own K S F (ρ.set i (some d)) (σ.set i (some v)) H := by
  refine ⟨by rw [List.length_set, List.length_set]; exact h.len, h.sub, h.cl, fun j e q => ?_, h.out, h.dis⟩
  rcases get_set q with ⟨rfl, e1, hl⟩ | ⟨ne, q⟩
  · cases e1
    exact ⟨v, by rw [List.getElem?_set_self (by rw [← h.len]; exact hl)], fun m => absurd m hi, fun _ => r⟩
  · obtain ⟨u, h1, h2⟩ := h.val j e q
    exact ⟨u, by rw [List.getElem?_set_ne (Ne.symm ne)]; exact h1, h2⟩
/-- fewer slots own: what they had stays from now on -/
theorem Stx.weak (h : Stx own K S F ρ σ H) (w : ∀ i ∈ own', i ∈ own) : Sta own' S K ρ σ H := by
  refine ⟨ext S H ((own.filter (fun i => decide (i ∉ own'))).flatMap F), F, ext_s _, h.len, ext_h h.sub _, fun a o e t => ext_stt h.sub e t, fun i d q => ?_, fun i m a ha => ?_, fun i mi j mj => h.dis i (w i mi) j (w j mj)⟩
  · obtain ⟨v, h1, h2, h3⟩ := h.val i d q
    refine ⟨v, h1, fun m => h2 (w i m), fun m => ?_⟩
    by_cases mo : i ∈ own
    · exact (h2 mo).ext h.sub fun a ha => List.mem_flatMap.mpr ⟨i, List.mem_filter.mpr ⟨mo, by simpa using m⟩, ha⟩
    · exact (h3 mo).mono (ext_s _)
  · obtain ⟨h1, o, h2, h3⟩ := h.out i (w i m) a ha
    refine ⟨ext_none h1 (fun z => ?_) (fun o' e => ?_), o, h2, h3⟩
    · obtain ⟨j, hj, hz⟩ := List.mem_flatMap.mp z
      obtain ⟨hj1, hj2⟩ := List.mem_filter.mp hj
      have hj2 : j ∉ own' := by simpa using hj2
      exact h.dis i (w i m) j hj1 (fun e => hj2 (e ▸ m)) a ha hz
    · rw [h2] at e; cases e; exact h3
theorem Sta.weak (h : Sta own B K ρ σ H) (w : ∀ i ∈ own', i ∈ own) : Sta own' B K ρ σ H :=
  let ⟨_, _, b, x⟩ := h
  (x.weak w).down b
end

/-! ### statements -/
inductive Sr where
  | st | nx (ρ : Env) | rt (d : D) | bk (ρ : Env) | ct (ρ : Env) | ex (c : Str) (ρ : Env)
def bindS {α : Type} (r : R α) (ρ : Env) (k : α → Sr) : Sr := match r with
  | .ok a => k a
  | .ex c => .ex c ρ
  | .st => .st
@[simp] theorem bindS_ok {α : Type} (a : α) (ρ : Env) (k : α → Sr) : bindS (.ok a) ρ k = k a := rfl
@[simp] theorem bindS_ex {α : Type} (c : Str) (ρ : Env) (k : α → Sr) : bindS (.ex c) ρ k = .ex c ρ := rfl
@[simp] theorem bindS_st {α : Type} (ρ : Env) (k : α → Sr) : bindS (.st) ρ k = .st := rfl
def SEnd (K : PySem.W.Frag) (mg : Str → Option Value) (W : WX) (own ol : List Nat) (B : Hp) (D : Ends) : Sr → Prop
  | .st => False
  | .nx ρ => ∀ σ H, Sta own B K ρ σ H → D.nx σ H
  | .rt d => ∀ v H A, Same B H → Fu K H v d A → (∀ a ∈ A, B a = none) → D.rt v H
  | .bk ρ => ∀ σ H, Sta ol B K ρ σ H → D.bk σ H
  | .ct ρ => ∀ σ H, Sta ol B K ρ σ H → D.ct σ H
  | .ex c ρ => ∃ C, mg c = some (.ref C) ∧ ∀ σ H, Sta [] B K ρ σ H → W (.ref C) none σ H
def tS (K : PySem.W.Frag) (mg : Str → Option Value) (W : WX) (own own' ol : List Nat) (b : Env → Sr) : TS := fun D σ H => ∃ B ρ, Sta own B K ρ σ H ∧ SEnd K mg W own' ol B D (b ρ)
structure VS (X : Cx) (W : WX) (own own' ol : List Nat) (st : Stmt) (b : Env → Sr) : Prop where
  ps : PS X st (tS X.K X.mg W own own' ol b)
structure VSs (X : Cx) (W : WX) (own own' ol : List Nat) (st : List Stmt) (b : Env → Sr) : Prop where
  ps : PSs X st (tS X.K X.mg W own own' ol b)
section
variable {K : PySem.W.Frag} {mg : Str → Option Value} {W : WX} {own own' own'' ol : List Nat} {B B' : Hp} {D E : Ends} {r : Sr}
theorem SEnd.up (h : SEnd K mg W own ol B D r) (s : Same B B') : SEnd K mg W own ol B' D r := by
  cases r with
  | st => exact h
  | nx ρ => exact fun σ H x => h σ H (x.down s)
  | rt d => exact fun v H A b f n => h v H A (s.trans b) f fun a m => s.free (n a m)
  | bk ρ => exact fun σ H x => h σ H (x.down s)
  | ct ρ => exact fun σ H x => h σ H (x.down s)
  | ex c ρ => obtain ⟨C, h1, h2⟩ := h; exact ⟨C, h1, fun σ H x => h2 σ H (x.down s)⟩
/-- from an expression's outcome to a statement's -/
theorem SEnd.out {α : Type} {x : R α} {ρ : Env} {k : α → Sr} {σ : L2.St} {H : Hp} (st : Sta own' B K ρ σ H) (h : SEnd K mg W own ol B D (bindS x ρ k)) : Out mg W σ H x fun a => SEnd K mg W own ol B D (k a) := by
  cases x with
  | st => exact h
  | ok a => exact h
  | ex c => obtain ⟨C, h1, h2⟩ := h; exact ⟨C, h1, fun H' s => h2 σ H' ((st.grow s).weak fun _ z => nomatch z)⟩
theorem SEnd.weak (h : SEnd K mg W own' ol B D r) (w : ∀ i ∈ own', i ∈ own) : SEnd K mg W own ol B D r := by
  cases r with
  | nx ρ => exact fun σ H x => h σ H (x.weak w)
  | st => exact h
  | rt d => exact h
  | bk ρ => exact h
  | ct ρ => exact h
  | ex c ρ => exact h
end
def seqS (a b : Env → Sr) (ρ : Env) : Sr := match a ρ with
  | .nx ρ' => b ρ'
  | r => r
def nilS (ρ : Env) : Sr := .nx ρ
def asgS (i : Nat) (f : Env → R D) (ρ : Env) : Sr := bindS (f ρ) ρ fun d => .nx (ρ.set i (some d))
def retS (f : Env → R D) (ρ : Env) : Sr := bindS (f ρ) ρ .rt
def retNS (_ : Env) : Sr := .rt .non
def retV (i : Nat) (ρ : Env) : Sr := match ρ[i]? with
  | some (some d) => .rt d
  | _ => .st
def ifS (t : Env → R Bool) (a b : Env → Sr) (ρ : Env) : Sr := bindS (t ρ) ρ fun c => if c = true then a ρ else b ρ
def exprS (f : Env → R D) (ρ : Env) : Sr := bindS (f ρ) ρ fun _ => .nx ρ
def bkS (ρ : Env) : Sr := .bk ρ
def ctS (ρ : Env) : Sr := .ct ρ
def raiseS (c : Str) (ρ : Env) : Sr := .ex c ρ
section
variable {X : Cx} {W : WX} {own own' own'' ol : List Nat} {st : Stmt} {sts : List Stmt} {a b : Env → Sr} {e : Expr} {f g : Env → R D} {pos : Pos}
theorem vs_nil : VSs X W own own ol [] nilS := ⟨pssW pss_nil fun D σ H ⟨B, ρ, x, q⟩ => q σ H x⟩
theorem vs_cons (h1 : VS X W own own' ol st a) (h2 : VSs X W own' own'' ol sts b) : VSs X W own own'' ol (st :: sts) (seqS a b) := ⟨pssW (pss_cons h1.ps h2.ps) fun D σ H ⟨B, ρ, x, q⟩ => ⟨B, ρ, x, by
  unfold seqS at q
  cases e : a ρ with
  | nx ρ' => rw [e] at q; exact fun σ' H' x' => ⟨B, ρ', x', q⟩
  | st => rw [e] at q; exact q
  | rt d => rw [e] at q; exact q
  | bk ρ => rw [e] at q; exact q
  | ct ρ => rw [e] at q; exact q
  | ex c ρ => rw [e] at q; exact q⟩⟩
theorem vs_one (h1 : VS X W own own' ol st a) : VSs X W own own' ol [st] a := ⟨pss_one h1.ps⟩
theorem VSs.weak (h : VSs X W own own' ol sts a) (w : ∀ i ∈ own'', i ∈ own' := by decide) : VSs X W own own'' ol sts a := ⟨pssW h.ps fun D σ H ⟨B, ρ, x, q⟩ => ⟨B, ρ, x, q.weak w⟩⟩
theorem VS.weak (h : VS X W own own' ol st a) (w : ∀ i ∈ own'', i ∈ own' := by decide) : VS X W own own'' ol st a := ⟨psW h.ps fun D σ H ⟨B, ρ, x, q⟩ => ⟨B, ρ, x, q.weak w⟩⟩
/-- fewer slots own ahead of a statement -/
theorem VS.pre (h : VS X W own' own'' ol st a) (w : ∀ i ∈ own', i ∈ own := by decide) : VS X W own own'' ol st a := ⟨psW h.ps fun D σ H ⟨B, ρ, x, q⟩ => ⟨B, ρ, x.weak w, q⟩⟩
theorem VSs.pre (h : VSs X W own' own'' ol sts a) (w : ∀ i ∈ own', i ∈ own := by decide) : VSs X W own own'' ol sts a := ⟨pssW h.ps fun D σ H ⟨B, ρ, x, q⟩ => ⟨B, ρ, x.weak w, q⟩⟩
theorem vs_set (i : Nat) {x : Str} {pos' : Pos} (hN : X.N.Nodup) (hi : X.N[i]? = some x) (hx : Loc X.env.scope x) (he : VG X W e f) (hs : swapsWith e (some (.Name x pos')) pos.line X.env = pure false := by rfl) (hf : X.fn x = true ∨ X.env.scope.names.lookup x = some .local := by first | exact .inl rfl | exact .inr rfl | assumption) :
    VS X W own (i :: own) ol (.Assign [.Name x pos'] e pos) (asgS i f) := ⟨psW (ps_set hN hi hx he.pe hs hf) fun D σ H ⟨B, ρ, x, q⟩ => ⟨ρ, x.env, (SEnd.out x q).mono fun d _ q v H' A s fu n => by
  obtain ⟨S, F, b, y⟩ := x
  exact q _ _ ⟨_, _, b.trans (ext_s []), y.put s fu n i⟩⟩⟩
theorem vs_ret (he : VG X W e f) : VS X W own own' ol (.Return (some e) pos) (retS f) := ⟨psW (ps_ret he.pe) fun D σ H ⟨B, ρ, x, q⟩ => ⟨ρ, x.env, (SEnd.out x q).mono fun d _ q v H' A s fu n => q v H' A (x.base.trans s) fu fun a m => x.base.free (n a m)⟩⟩
theorem vs_retN : VS X W own own' ol (.Return none pos) retNS := ⟨psW ps_retN fun D σ H ⟨B, ρ, x, q⟩ => q .non H [] x.base .non (fun _ z => nomatch z)⟩
theorem vs_retV (i : Nat) {x : Str} {pos' : Pos} (p : PE X (.Name x pos') (tVar i)) (hi : i ∈ own := by decide) : VS X W own own' ol (.Return (some (.Name x pos')) pos) (retV i) := ⟨psW (ps_ret p) fun D σ H ⟨B, ρ, x, q⟩ => by
  unfold retV at q
  split at q
  · rename_i d e
    obtain ⟨S, F, b, y⟩ := x
    obtain ⟨v, h1, h2, _⟩ := y.val i d e
    exact ⟨v, h1, q v H (F i) (b.trans y.sub) (h2 hi) fun a m => b.free (y.out i hi a m).1⟩
  · exact q.elim⟩
theorem vs_if {c : Expr} {t : Env → R Bool} {s1 s2 : List Stmt} (hc : VT X W c t) (h1 : VSs X W own own' ol s1 a) (h2 : VSs X W own own' ol s2 b) : VS X W own own' ol (.If c s1 s2 pos) (ifS t a b) := ⟨psW (ps_if hc.pt h1.ps h2.ps) fun D σ H ⟨B, ρ, x, q⟩ => ⟨ρ, x.env, (SEnd.out x q).mono fun k _ q H' s => by
  cases k with
  | true => exact ⟨B, ρ, x.grow s, q⟩
  | false => exact ⟨B, ρ, x.grow s, q⟩⟩⟩
theorem vs_expr (he : VE X W e f) (hs : swapsWith e none pos.line X.env = pure false := by rfl) : VS X W own own ol (.Expr e pos) (exprS f) := ⟨psW (ps_expr he.pe hs) fun D σ H ⟨B, ρ, x, q⟩ => ⟨ρ, x.env, (SEnd.out x q).mono fun d _ q v H' s _ => q σ H' (x.grow s)⟩⟩
theorem vs_pass : VS X W own own ol (.Pass pos) nilS := ⟨psW ps_pass fun D σ H ⟨B, ρ, x, q⟩ => q σ H x⟩
theorem vs_break (w : ∀ i ∈ ol, i ∈ own := by decide) : VS X W own own' ol (.Break pos) bkS := ⟨psW ps_break fun D σ H ⟨B, ρ, x, q⟩ => q σ H (x.weak w)⟩
theorem vs_continue (w : ∀ i ∈ ol, i ∈ own := by decide) : VS X W own own' ol (.Continue pos) ctS := ⟨psW ps_continue fun D σ H ⟨B, ρ, x, q⟩ => q σ H (x.weak w)⟩
theorem vs_raise {cx : Str} {C : Addr} (hc : X.calm = true) (tk : Takes X W) (he : PMk X e (fun _ H Q => Q (.ref C) none H)) (hm : X.mg cx = some (.ref C)) : VS X W own own' ol (.Raise (some e) none pos) (raiseS cx) := ⟨psW (ps_raise hc tk he) fun D σ H ⟨B, ρ, x, q⟩ => by
  obtain ⟨C', h1, h2⟩ := q
  rw [hm] at h1
  cases h1
  exact h2 σ H (x.weak fun _ z => nomatch z)⟩
end

/-! ### a def -/
def bodyR : Sr → R D
  | .nx _ => .ok .non
  | .rt d => .ok d
  | .ex c _ => .ex c
  | _ => .st
def runB (n : Nat) (b : Env → Sr) (ds : List D) : R D := bodyR (b (ds.map some ++ List.replicate (n - ds.length) none))
section
variable {P : Program} {w : World} {K : PySem.W.Frag} {mg : Str → Option Value} {base : Heap}
theorem start_env {N : List Str} {vs : List V} {ds : List D} {H : Hp} (r : Rds K H vs ds) (hl : vs.length ≤ N.length) : Sta [] H K (ds.map some ++ List.replicate (N.length - ds.length) none) (L2.start N vs) H := by
  refine ⟨H, fun _ => [], Same.refl H, ?_, Same.refl H, fun a o e _ => e, fun i d q => ?_, (fun i m => nomatch m), (fun i m => nomatch m)⟩
  · unfold L2.start
    simp [r.length]
  · rw [List.getElem?_append] at q
    split at q
    · rename_i hi
      rw [List.getElem?_map] at q
      cases e : ds[i]? with
      | none => rw [e] at q; cases q
      | some d' =>
        rw [e] at q
        cases q
        obtain ⟨v, h1, h2⟩ := r.get e
        refine ⟨v, ?_, (fun m => nomatch m), fun _ => h2⟩
        unfold L2.start
        rw [List.getElem?_append_left (by rw [List.length_map, r.length]; simpa using hi), List.getElem?_map, h1]
        rfl
    · rw [List.getElem?_replicate] at q
      split at q <;> cases q
theorem fn_ok {x qual : Str} {st : Stmt} {f : Addr} {fd : FuncData} {N ps : List Str} {k : Nat} {own' : List Nat} {b : Env → Sr} (F : Fun K x qual st f fd) (S : FnScope N ps (defScope st)) (hps : ps.length ≤ N.length)
    (hbody : ∀ (cdv : Value) (A : Around) (outer : List PySem.Env) (s : Shared) (H : Hp) (E : XK), Room k (A.deeper (envOfC qual (defScope st) s.heap.objs.size f cdv)) →
      VSs (cxOf (L2.CX P w) P w K mg base N qual (defScope st) f cdv A outer s H E) (fun cls d _ H => E cls d H) [] own' [] (defBody st) b) :
    FnOk P w K mg base (L2.CX P w) (k + 1) f fd ps (spF K mg ps.length (runB N.length b)) := by
  refine F.okX S (fun vs H Q E h => h.1) (fun cdv A outer s H vs Q E hr h => ?_)
  obtain ⟨hl, ds, r, h⟩ := h
  refine ⟨_, (hbody cdv A outer s H E hr).ps, H, _, start_env r (by rw [hl]; exact hps), ?_⟩
  unfold runB at h
  generalize b (ds.map some ++ List.replicate (N.length - ds.length) none) = q at h
  cases q with
  | st => exact h
  | nx ρ => exact fun σ H' y => h .non H' [] y.base .non (fun _ z => nomatch z)
  | rt d => exact h
  | bk ρ => exact h.elim
  | ct ρ => exact h.elim
  | ex c ρ =>
    obtain ⟨C, h1, h2⟩ := h
    exact ⟨C, h1, fun σ H' y => h2 H' y.base⟩
end
end Vs

namespace Vs
open PySem PySem.Spec PyProof.Rows L2

/-! ### what is walked -/
section
variable {K : PySem.W.Frag} {H H' S S' : Hp} {A : List Addr}
theorem ext_mono (s : Same H H') (sS : Same S H) : Same (ext S H A) (ext S H' A) := fun b o e => by
  unfold ext at e ⊢
  cases q : S b with
  | some u => rw [q] at e; exact e
  | none =>
    rw [q] at e
    cases q' : H b with
    | some u =>
      rw [q'] at e
      rw [s b u q']
      simp only at e ⊢
      split at e
      · rename_i c; rw [if_pos c]; exact e
      · cases e
    | none => rw [q'] at e; cases e
theorem ext_sub (s : Same S S') (sS : Same S' H) : Same (ext S H []) (ext S' H []) := fun b o e => by
  have e' := ext_h (s.trans sS) [] b o e
  unfold ext at e ⊢
  cases q : S b with
  | some u => rw [q] at e; rw [s b u q]; exact e
  | none =>
    rw [q, e'] at e
    simp only at e
    split at e
    · rename_i c
      cases q' : S' b with
      | some u => have := sS b u q'; rw [e'] at this; exact this.symm
      | none => rw [e']; simp only; rw [if_pos c]
    · cases e
/-- at each turn the next of ds, from a heap that keeps S0 -/
def IterOk (K : PySem.W.Frag) (J : It) (S0 : Hp) (ds : List D) : Prop := ∀ (S H : Hp) (i : Nat), Same S0 S → Same S H →
  (∀ d, ds[i]? = some d → J.go i H ∧ ∀ x H', J.yld i H x H' → Same H H' ∧ Rd K (ext S H' []) x d) ∧ (ds.length ≤ i → J.stop i H)
theorem it_list {a : Addr} {vs : List V} {ds : List D} (h : SqL K S a vs) (r : Rds K S vs ds) : IterOk K (Itl K a) S ds := fun S1 H1 i s1 s2 => by
  have hq : SqL K H1 a vs := (s1.trans s2).seq h
  refine ⟨fun d hd => ?_, fun hl => ⟨vs, hq, by rw [r.length]; exact hl⟩⟩
  obtain ⟨v, hv, rv⟩ := r.get hd
  refine ⟨⟨vs, v, hq, hv⟩, fun x H' y => ?_⟩
  obtain ⟨rfl, y⟩ := y
  have e := y vs hq
  rw [hv] at e
  cases e
  exact ⟨Same.refl _, rv.mono (s1.trans (ext_s []))⟩
theorem it_tup {a : Addr} {vs : List V} {ds : List D} (h : TpT K S a vs) (r : Rds K S vs ds) : IterOk K (Itt K a) S ds := fun S1 H1 i s1 s2 => by
  have hq : SqT K H1 a vs := (seqT (s1.trans s2) h).sq
  refine ⟨fun d hd => ?_, fun hl => ⟨vs, hq, by rw [r.length]; exact hl⟩⟩
  obtain ⟨v, hv, rv⟩ := r.get hd
  refine ⟨⟨vs, v, hq, hv⟩, fun x H' y => ?_⟩
  obtain ⟨rfl, y⟩ := y
  have e := y vs hq
  rw [hv] at e
  cases e
  exact ⟨Same.refl _, rv.mono (s1.trans (ext_s []))⟩
theorem get_rev {α : Type} {xs : List α} {i : Nat} (h : i < xs.length) : xs[xs.length - 1 - i]? = xs.reverse[i]? := by
  rw [List.getElem?_reverse h]
theorem rds_rev {vs : List V} {ds : List D} (r : Rds K S vs ds) {i : Nat} {d : D} (hd : ds.reverse[i]? = some d) : i < vs.length ∧ ∃ v, vs[vs.length - 1 - i]? = some v ∧ Rd K S v d := by
  have hi : i < ds.length := by
    have := (List.getElem?_eq_some_iff.mp hd).1
    simpa using this
  rw [← get_rev hi] at hd
  obtain ⟨v, hv, rv⟩ := r.get hd
  rw [r.length]
  exact ⟨hi, v, hv, rv⟩
theorem it_revL {a : Addr} {vs : List V} {ds : List D} (h : SqL K S a vs) (r : Rds K S vs ds) : IterOk K (Itv K a vs.length) S ds.reverse := fun S1 H1 i s1 s2 => by
  have hq : SqL K H1 a vs := (s1.trans s2).seq h
  refine ⟨fun d hd => ?_, fun hl => (by rw [List.length_reverse, ← r.length] at hl; exact hl)⟩
  obtain ⟨hi, v, hv, rv⟩ := rds_rev r hd
  refine ⟨⟨hi, vs, v, hq, hv⟩, fun x H' y => ?_⟩
  obtain ⟨rfl, y⟩ := y
  have e := y vs hq
  rw [hv] at e
  cases e
  exact ⟨Same.refl _, rv.mono (s1.trans (ext_s []))⟩
theorem it_revT {a : Addr} {vs : List V} {ds : List D} (h : TpT K S a vs) (r : Rds K S vs ds) : IterOk K (RT.ItvT K a vs.length) S ds.reverse := fun S1 H1 i s1 s2 => by
  have hq : SqT K H1 a vs := (seqT (s1.trans s2) h).sq
  refine ⟨fun d hd => ?_, fun hl => (by rw [List.length_reverse, ← r.length] at hl; exact hl)⟩
  obtain ⟨hi, v, hv, rv⟩ := rds_rev r hd
  refine ⟨⟨hi, vs, v, hq, hv⟩, fun x H' y => ?_⟩
  obtain ⟨rfl, y⟩ := y
  have e := y vs hq
  rw [hv] at e
  cases e
  exact ⟨Same.refl _, rv.mono (s1.trans (ext_s []))⟩
def rngL (lo : Int) (n : Nat) : List D := (List.range n).map fun (i : Nat) => D.int (lo + (i : Int))
def rngC (lo c : Int) (n : Nat) : List D := (List.range n).map fun (i : Nat) => D.int (lo + (i : Int) * c)
theorem rngC_get {lo c : Int} {n i : Nat} {d : D} (h : (rngC lo c n)[i]? = some d) : i < n ∧ d = .int (lo + (i : Int) * c) := by
  unfold rngC at h
  rw [List.getElem?_map] at h
  cases e : (List.range n)[i]? with
  | none => rw [e] at h; cases h
  | some j =>
    rw [e] at h
    have q := List.getElem?_eq_some_iff.mp e
    obtain ⟨q1, q2⟩ := q
    rw [List.getElem_range] at q2
    subst q2
    cases h
    exact ⟨by simpa using q1, rfl⟩
theorem rngL_eq (lo : Int) (n : Nat) : rngL lo n = rngC lo 1 n := by unfold rngL rngC; simp
theorem it_rng (lo : Int) (n : Nat) : IterOk K (Itr lo n) S (rngL lo n) := fun S1 H1 i s1 s2 => by
  refine ⟨fun d hd => ?_, fun hl => (show n ≤ i by simpa [rngL] using hl)⟩
  rw [rngL_eq] at hd
  obtain ⟨hi, rfl⟩ := rngC_get hd
  refine ⟨hi, fun x H' y => ?_⟩
  obtain ⟨rfl, rfl⟩ := y
  rw [Int.mul_one]
  exact ⟨Same.refl _, .int _⟩
theorem it_rngC (lo c : Int) (n : Nat) : IterOk K (Itc lo c n) S (rngC lo c n) := fun S1 H1 i s1 s2 => by
  refine ⟨fun d hd => ?_, fun hl => (show n ≤ i by simpa [rngC] using hl)⟩
  obtain ⟨hi, rfl⟩ := rngC_get hd
  refine ⟨hi, fun x H' y => ?_⟩
  obtain ⟨rfl, rfl⟩ := y
  exact ⟨Same.refl _, .int _⟩
def strL (x : Str) : List D := x.cps.toList.map fun c => D.str ⟨#[c]⟩
theorem it_str (x : Str) : IterOk K (Its x) S (strL x) := fun S1 H1 i s1 s2 => by
  refine ⟨fun d hd => ?_, fun hl => (show x.cps.size ≤ i by simpa [strL] using hl)⟩
  unfold strL at hd
  rw [List.getElem?_map, Array.getElem?_toList] at hd
  cases e : x.cps[i]? with
  | none => rw [e] at hd; cases hd
  | some c =>
    rw [e] at hd
    cases hd
    refine ⟨(Array.getElem?_eq_some_iff.mp e).1, fun v H' y => ?_⟩
    obtain ⟨rfl, c', h1, rfl⟩ := y
    rw [e] at h1
    cases h1
    exact ⟨Same.refl _, .str _⟩
def enumL : Nat → List D → List D
  | _, [] => []
  | n, d :: ds => .tup [.int n, d] :: enumL (n + 1) ds
theorem enumL_get : ∀ {ds : List D} {n i : Nat} {d : D}, (enumL n ds)[i]? = some d → ∃ e, ds[i]? = some e ∧ d = .tup [.int ((n + i : Nat) : Int), e]
  | [], n, i, d, h => by simp [enumL] at h
  | x :: ds, n, 0, d, h => by
    simp [enumL] at h
    exact ⟨x, rfl, by rw [← h]; rfl⟩
  | x :: ds, n, i + 1, d, h => by
    simp only [enumL, List.getElem?_cons_succ] at h
    obtain ⟨e, h1, h2⟩ := enumL_get h
    exact ⟨e, by simpa using h1, by rw [h2, show n + 1 + i = n + (i + 1) from by omega]⟩
theorem enumL_length : ∀ {ds : List D} {n : Nat}, (enumL n ds).length = ds.length
  | [], _ => rfl
  | x :: ds, n => by simp [enumL, enumL_length]
theorem it_enum {a : Addr} {vs : List V} {ds : List D} (h : SqL K S a vs) (r : Rds K S vs ds) : IterOk K (Ite K a) S (enumL 0 ds) := fun S1 H1 i s1 s2 => by
  have hq : SqL K H1 a vs := (s1.trans s2).seq h
  refine ⟨fun d hd => ?_, fun hl => ⟨vs, hq, by rw [r.length, ← enumL_length (ds := ds) (n := 0)]; exact hl⟩⟩
  obtain ⟨e, h1, rfl⟩ := enumL_get hd
  obtain ⟨v, hv, rv⟩ := r.get h1
  refine ⟨⟨vs, v, hq, hv⟩, fun x H' y => ?_⟩
  obtain ⟨T, u, rfl, hT, rfl, y⟩ := y
  have e := y vs hq
  rw [hv] at e
  cases e
  have sn : Same H1 (upd H1 T (.tup [.int (i : Nat), v])) := new_same hT
  refine ⟨sn, .tup (ext_stt (s2.trans sn) upd_same trivial) (.cons ?_ (.cons (rv.mono (s1.trans (ext_s []))) .nil))⟩
  rw [Nat.zero_add]
  exact .int _
def zipL : List D → List D → List D
  | d :: ds, e :: es => .tup [d, e] :: zipL ds es
  | _, _ => []
theorem zipL_get : ∀ {ds es : List D} {i : Nat} {d : D}, (zipL ds es)[i]? = some d → ∃ x y, ds[i]? = some x ∧ es[i]? = some y ∧ d = .tup [x, y]
  | [], _, i, d, h => by simp [zipL] at h
  | _ :: _, [], i, d, h => by simp [zipL] at h
  | x :: ds, y :: es, 0, d, h => by
    simp [zipL] at h
    exact ⟨x, y, rfl, rfl, h.symm⟩
  | x :: ds, y :: es, i + 1, d, h => by
    simp only [zipL, List.getElem?_cons_succ] at h ⊢
    exact zipL_get h
theorem zipL_length : ∀ {ds es : List D}, (zipL ds es).length = min ds.length es.length
  | [], _ => by simp [zipL]
  | _ :: _, [] => by simp [zipL]
  | x :: ds, y :: es => by simp [zipL, zipL_length]
theorem it_zip {a b : Addr} {vs ws : List V} {ds es : List D} (h : SqL K S a vs) (r : Rds K S vs ds) (h' : SqL K S b ws) (r' : Rds K S ws es) : IterOk K (Itz K a b) S (zipL ds es) := fun S1 H1 i s1 s2 => by
  have hq : SqL K H1 a vs := (s1.trans s2).seq h
  have hq' : SqL K H1 b ws := (s1.trans s2).seq h'
  refine ⟨fun d hd => ?_, fun hl => ⟨vs, ws, hq, hq', by rw [r.length, r'.length]; rw [zipL_length] at hl; omega⟩⟩
  obtain ⟨x, y, h1, h2, rfl⟩ := zipL_get hd
  obtain ⟨v, hv, rv⟩ := r.get h1
  obtain ⟨w, hw, rw_⟩ := r'.get h2
  refine ⟨⟨vs, ws, v, w, hq, hq', hv, hw⟩, fun x H' y => ?_⟩
  obtain ⟨T, u, u', rfl, hT, rfl, y, y'⟩ := y
  have e := y vs hq
  rw [hv] at e
  cases e
  have e := y' ws hq'
  rw [hw] at e
  cases e
  have sn : Same H1 (upd H1 T (.tup [v, w])) := new_same hT
  exact ⟨sn, .tup (ext_stt (s2.trans sn) upd_same trivial) (.cons (rv.mono (s1.trans (ext_s []))) (.cons (rw_.mono (s1.trans (ext_s []))) .nil))⟩
end

/-! ### sources: what they hand out stays -/
def tP (K : PySem.W.Frag) (mg : Str → Option Value) (W : WX) (own : List Nat) (f : Env → R D) : TE := fun σ H Q => ∃ ρ S F, Stx own K S F ρ σ H ∧ Out mg W σ H (f ρ) fun d => ∀ v H' A, Same H H' → (∀ a ∈ A, H a = none) → Rd K (ext S H' A) v d → Q v H'
def tPs (K : PySem.W.Frag) (mg : Str → Option Value) (W : WX) (own : List Nat) (f : Env → R (List D)) : TA := fun σ H Q => ∃ ρ S F, Stx own K S F ρ σ H ∧ Out mg W σ H (f ρ) fun d => ∀ v H' A, Same H H' → (∀ a ∈ A, H a = none) → Rds K (ext S H' A) v d → Q v H'
structure VP (X : Cx) (W : WX) (own : List Nat) (e : Expr) (f : Env → R D) : Prop where
  pe : PE X e (tP X.K X.mg W own f)
structure VPs (X : Cx) (W : WX) (own : List Nat) (e : List Expr) (f : Env → R (List D)) : Prop where
  pa : PA X e (tPs X.K X.mg W own f)
def tI (K : PySem.W.Frag) (mg : Str → Option Value) (W : WX) (own : List Nat) (f : Env → R (List D)) : TI := fun σ H R => ∃ ρ S F, Stx own K S F ρ σ H ∧ Out mg W σ H (f ρ) fun ds => ∀ J H' A, Same H H' → (∀ a ∈ A, H a = none) → IterOk K J (ext S H' A) ds → R J H'
structure VI (X : Cx) (W : WX) (own : List Nat) (tg iter : Expr) (f : Env → R (List D)) : Prop where
  pi : PI X tg iter (tI X.K X.mg W own f)
theorem piW {X : Cx} {tg e : Expr} {t u : TI} (h : PI X tg e t) (q : ∀ σ H Q, u σ H Q → t σ H Q) : PI X tg e u := ⟨fun pins s σ H Q I x => h.run pins s σ H Q I (q σ H Q x)⟩
theorem piOr {X : Cx} {tg e : Expr} {t u : TI} (h : PI X tg e t) (h' : PI X tg e u) : PI X tg e (fun σ H R => t σ H R ∨ u σ H R) := ⟨fun pins s σ H R I x => x.elim (h.run pins s σ H R I) (h'.run pins s σ H R I)⟩
section
variable {X : Cx} {W : WX} {own : List Nat} {e a b c tg : Expr} {es : List Expr} {f g : Env → R D} {fs : Env → R (List D)} {x : Str} {p pos : Pos}
theorem vp_var (i : Nat) (q : PE X (.Name x pos) (tVar i)) (hi : i ∉ own := by decide) : VP X W own (.Name x pos) (varE i) := ⟨peW q fun σ H Q ⟨ρ, S, F, st, o⟩ => by
  unfold varE at o
  split at o
  · rename_i d e
    obtain ⟨v, h1, _, h2⟩ := st.val i d e
    exact ⟨v, h1, o v H [] (Same.refl H) (fun _ z => nomatch z) ((h2 hi).mono (ext_s _))⟩
  · exact o.elim⟩
theorem VG.vp (v : VG X W e f) : VP X W own e f := ⟨peW v.pe fun σ H Q ⟨ρ, S, F, st, o⟩ => ⟨ρ, st.env, o.mono fun d _ q v H' A s fu n => q v H' A s n (fu.ext (st.sub.trans s) fun _ m => m)⟩⟩
theorem vp_ix (ha : VP X W own a f) (hb : VE X W b g) (hs : PlainIx b) : VP X W own (.Subscript a b pos) (op2 ixD f g) :=
  ⟨peW (pe_ix ix_seq ha.pe hb.pe hs) fun σ H Q ⟨ρ, S, F, st, o⟩ => ⟨ρ, S, F, st, (Out.bind o).mono fun d _ q v H1 A s1 n1 r1 => ⟨ρ, st.env.mono s1, ((Out.bind q).up s1).mono fun e _ q w H2 s2 r2 => by
    have sS : Same S H2 := st.sub.trans (s1.trans s2)
    have r1 := r1.mono (ext_mono (A := A) s2 (st.sub.trans s1))
    unfold ixD at q
    split at q
    · split at q
      · rename_i hx
        cases r2
        cases r1 with
        | lst h1 r1 =>
          obtain ⟨u, hu, ru⟩ := atI_rd r1 hx
          exact .inl ⟨_, _, _, u, rfl, rfl, (ext_h sS A).seq h1, hu, q u H2 A (s1.trans s2) n1 ru⟩
      · exact q.elim
    · split at q
      · rename_i hx
        cases r2
        cases r1 with
        | tup h1 r1 =>
          obtain ⟨u, hu, ru⟩ := atI_rd r1 hx
          exact .inr (.inl ⟨_, _, _, u, rfl, rfl, (seqT (ext_h sS A) h1).sq, hu, q u H2 A (s1.trans s2) n1 ru⟩)
      · exact q.elim
    · split at q
      · rename_i hz
        split at q
        · rename_i hx
          cases r2
          cases r1
          exact .inr (.inr ⟨_, _, _, rfl, rfl, hz, hx, q _ H2 A (s1.trans s2) n1 (.str _)⟩)
        · exact q.elim
      · exact q.elim
    · exact q.elim⟩⟩⟩
theorem vps_nil : VPs X W own [] nilA := ⟨paW pa_nil fun σ H Q ⟨ρ, S, F, st, o⟩ => o [] H [] (Same.refl H) (fun _ z => nomatch z) .nil⟩
theorem vps_cons (ha : VP X W own e f) (hr : VPs X W own es fs) (hs : starEach (e :: es) X.env = (false, eval e X.env) :: starEach es X.env := by rfl) : VPs X W own (e :: es) (consA f fs) :=
  ⟨paW (pa_cons ha.pe hr.pa hs) fun σ H Q ⟨ρ, S, F, st, o⟩ => ⟨ρ, S, F, st, (Out.bind o).mono fun d _ q v H1 A s1 n1 r1 => ⟨ρ, ext S H1 A, F, st.grow s1 n1, ((Out.bind q).up s1).mono fun ds _ q vs H2 B s2 n2 r2 => by
    have k1 : Same (ext (ext S H1 A) H2 B) (ext S H2 (A ++ B)) := fun b o hb => by
      have hb2 := ext_h (S := ext S H1 A) ((ext_h (st.sub.trans s1) A).trans s2) B b o hb
      unfold ext at hb ⊢
      cases q1 : S b with
      | some u => rw [q1] at hb; exact hb
      | none =>
        rw [q1] at hb
        simp only at hb ⊢
        rw [hb2] at hb ⊢
        simp only at hb ⊢
        cases q2 : H1 b with
        | none =>
          rw [q2] at hb
          simp only at hb
          split at hb
          · rename_i c; rw [if_pos (c.imp id fun z => List.mem_append_right _ z)]
          · cases hb
        | some u =>
          rw [q2] at hb
          simp only at hb
          by_cases c : Stt u ∨ b ∈ A
          · have eu : u = o := by
              have := s2 b u q2
              rw [hb2] at this
              exact (Option.some.inj this).symm
            subst eu
            rw [if_pos (c.imp id fun z => List.mem_append_left _ z)]
          · rw [if_neg c] at hb
            simp only at hb
            split at hb
            · rename_i c; rw [if_pos (c.imp id fun z => List.mem_append_right _ z)]
            · cases hb
    exact q (v :: vs) H2 (A ++ B) (s1.trans s2) (fun x hx => (List.mem_append.mp hx).elim (fun z => n1 x z) fun z => s1.free (n2 x z)) (.cons (r1.mono ((ext_s B).trans k1)) (r2.mono k1))⟩⟩⟩

/-! ### iterables -/
def itV (g : D → R (List D)) (f : Env → R D) (ρ : Env) : R (List D) := (f ρ).bind g
def itR (g : List D → R (List D)) (f : Env → R (List D)) (ρ : Env) : R (List D) := (f ρ).bind g
def revR : D → R (List D)
  | .lst xs => .ok xs.reverse
  | .tup xs => .ok xs.reverse
  | _ => .st
def enumR : List D → R (List D)
  | [.lst xs] => .ok (enumL 0 xs)
  | _ => .st
def zipR : List D → R (List D)
  | [.lst xs, .lst ys] => .ok (zipL xs ys)
  | _ => .st
def itemsR : D → R (List D)
  | .lst xs => .ok xs
  | .tup xs => .ok xs
  | .str x => .ok (strL x)
  | _ => .st
theorem vi_seq (ha : VP X W own a f) : VI X W own tg a (itV itemsR f) := ⟨piW (piOr (pi_list ha.pe) (piOr (pi_tup ha.pe) (pi_str ha.pe))) fun σ H Q ⟨ρ, S, F, st, o⟩ => by
  have o := Out.bind o
  cases hd : f ρ with
  | ok d =>
    rw [hd] at o
    have o : Out X.mg W σ H (itemsR d) _ := o
    cases d with
    | lst xs =>
      refine .inl ⟨ρ, S, F, st, ?_⟩
      rw [hd]
      intro v H' A s n r
      cases r with
      | lst h r => exact ⟨_, rfl, ⟨_, (ext_h (st.sub.trans s) A).seq h⟩, o _ H' A s n (it_list h r)⟩
    | tup xs =>
      refine .inr (.inl ⟨ρ, S, F, st, ?_⟩)
      rw [hd]
      intro v H' A s n r
      cases r with
      | tup h r => exact ⟨_, rfl, ⟨_, (seqT (ext_h (st.sub.trans s) A) h).sq⟩, o _ H' A s n (it_tup h r)⟩
    | str x =>
      refine .inr (.inr ⟨ρ, S, F, st, ?_⟩)
      rw [hd]
      intro v H' A s n r
      cases r
      exact ⟨x, rfl, o _ H' A s n (it_str x)⟩
    | _ => exact o.elim
  | ex c =>
    rw [hd] at o
    refine .inl ⟨ρ, S, F, st, ?_⟩
    rw [hd]
    exact o
  | st => rw [hd] at o; exact o.elim⟩
theorem vi_rev (hg : Gl X "reversed") (hm : X.mg "reversed" = none) (ha : VP X W own a f) (hs : starEach [a] X.env = (false, eval a X.env) :: starEach [] X.env := by rfl) :
    VI X W own tg (.Call (.Name "reversed" p) [a] [] pos) (itV revR f) :=
  ⟨piW (RT.pi_revA hg hm ha.pe hs) fun σ H Q ⟨ρ, S, F, st, o⟩ => ⟨ρ, S, F, st, (Out.bind o).mono fun d _ q v H' A s n r => by
    cases r with
    | lst h r => exact ⟨_, _, rfl, .inl ⟨(ext_h (st.sub.trans s) A).seq h, q _ H' A s n (it_revL h r)⟩⟩
    | tup h r => exact ⟨_, _, rfl, .inr ⟨(seqT (ext_h (st.sub.trans s) A) h).sq, q _ H' A s n (it_revT h r)⟩⟩
    | _ => exact q.elim⟩⟩
def bnd (i : Int) : Prop := -(2 ^ 62) ≤ i ∧ i < 2 ^ 62
instance (i : Int) : Decidable (bnd i) := inferInstanceAs (Decidable (_ ∧ _))
def rng1 : List D → R (List D)
  | [.int j] => if bnd j then .ok (rngL 0 j.toNat) else .st
  | _ => .st
def rng2 : List D → R (List D)
  | [.int i, .int j] => if bnd i ∧ bnd j then .ok (rngL i (j - i).toNat) else .st
  | _ => .st
/-- how many turns a range has -/
def rngN (i j c : Int) : Nat := if 0 < c then ((j - i + c - 1) / c).toNat else if c < 0 then ((i - j - c - 1) / (-c)).toNat else 0
def rng3 : List D → R (List D)
  | [.int i, .int j, .int c] => if bnd i ∧ bnd j ∧ c ≠ 0 ∧ c.natAbs < 1073741824 then .ok (rngC i c (rngN i j c)) else .st
  | _ => .st
theorem vi_rng1 (hg : Gl X "range") (hm : X.mg "range" = none) (ha : VA X W [a] fs) (hs : starEach [a] X.env = [(false, eval a X.env)] := by rfl) : VI X W own tg (.Call (.Name "range" p) [a] [] pos) (itR rng1 fs) :=
  ⟨piW (pi_range1 hg hm ha.pa hs) fun σ H Q ⟨ρ, S, F, st, o⟩ => ⟨ρ, st.env, (Out.bind o).mono fun ds _ q vs H' s r => by
    unfold rng1 at q
    split at q
    · obtain ⟨v, rfl, h1⟩ := rds1 r
      split at q
      · rename_i c
        cases h1
        exact ⟨_, rfl, c.1, c.2, q _ H' [] s (fun _ z => nomatch z) (it_rng 0 _)⟩
      · exact q.elim
    · exact q.elim⟩⟩
theorem vi_rng2 (hg : Gl X "range") (hm : X.mg "range" = none) (ha : VA X W [a, b] fs) (hs : starEach [a, b] X.env = [(false, eval a X.env), (false, eval b X.env)] := by rfl) (hs2 : starEach [b] X.env = [(false, eval b X.env)] := by rfl) :
    VI X W own tg (.Call (.Name "range" p) [a, b] [] pos) (itR rng2 fs) :=
  ⟨piW (pi_range2 hg hm ha.pa hs hs2) fun σ H Q ⟨ρ, S, F, st, o⟩ => ⟨ρ, st.env, (Out.bind o).mono fun ds _ q vs H' s r => by
    unfold rng2 at q
    split at q
    · obtain ⟨v, w, rfl, h1, h2⟩ := rds2 r
      split at q
      · rename_i c
        cases h1
        cases h2
        exact ⟨_, _, rfl, ⟨c.1.1, c.1.2, c.2.1, c.2.2⟩, q _ H' [] s (fun _ z => nomatch z) (it_rng _ _)⟩
      · exact q.elim
    · exact q.elim⟩⟩
theorem vi_enum {elts : List Expr} {kk : Nat} {tpos : Pos} (hg : Gl X "enumerate") (hm : X.mg "enumerate" = none) (ha : VPs X W own [a] fs) (hs : starEach [a] X.env = [(false, eval a X.env)] := by rfl) :
    VI X W own (.Tuple elts kk tpos) (.Call (.Name "enumerate" p) [a] [] pos) (itR enumR fs) :=
  ⟨piW (pi_enum hg hm ha.pa hs) fun σ H Q ⟨ρ, S, F, st, o⟩ => ⟨ρ, S, F, st, (Out.bind o).mono fun ds _ q vs H' A s n r => by
    unfold enumR at q
    split at q
    · obtain ⟨v, rfl, h1⟩ := rds1 r
      cases h1 with
      | lst h r => exact ⟨_, _, rfl, (ext_h (st.sub.trans s) A).seq h, q _ H' A s n (it_enum h r)⟩
    · exact q.elim⟩⟩
theorem vi_zip {elts : List Expr} {kk : Nat} {tpos : Pos} (hg : Gl X "zip") (hm : X.mg "zip" = none) (ha : VPs X W own [a, b] fs) (hs : starEach [a, b] X.env = (false, eval a X.env) :: starEach [b] X.env := by rfl) (hpl : (backTo pos (starEach [b] X.env)).any (·.1) = false := by rfl) :
    VI X W own (.Tuple elts kk tpos) (.Call (.Name "zip" p) [a, b] [] pos) (itR zipR fs) :=
  ⟨piW (pi_zip hg hm ha.pa hs hpl) fun σ H Q ⟨ρ, S, F, st, o⟩ => ⟨ρ, S, F, st, (Out.bind o).mono fun ds _ q vs H' A s n r => by
    unfold zipR at q
    split at q
    · obtain ⟨v, w, rfl, h1, h2⟩ := rds2 r
      cases h1 with
      | lst h r1 =>
        cases h2 with
        | lst h' r' => exact ⟨_, _, _, _, rfl, (ext_h (st.sub.trans s) A).seq h, (ext_h (st.sub.trans s) A).seq h', q _ H' A s n (it_zip h r1 h' r')⟩
    · exact q.elim⟩⟩
end
end Vs

namespace Vs
open PySem PySem.Spec PyProof.Rows L2

/-! ### targets of a loop -/
def TgOk (X : Cx) (own slots : List Nat) (g : TG) (tf : D → Env → Option Env) : Prop := ∀ (S : Hp) (F : Nat → List Addr) (ρ : Env) (σ : L2.St) (H : Hp) (x : V) (d : D) (ρ' : Env), Stx own X.K S F ρ σ H → Rd X.K S x d → tf d ρ = some ρ' →
  ∀ Q : L2.St → Hp → Prop, (∀ σ', Stx own X.K S F ρ' σ' H → (∀ k, k ∉ slots → σ'[k]? = σ[k]?) → σ'.length = σ.length → Q σ' H) → g x σ H Q
structure VG' (X : Cx) (own slots : List Nat) (tg : Expr) (tf : D → Env → Option Env) : Prop where
  ex : ∃ g, PG X tg g ∧ TgOk X own slots g tf
def tgN (i : Nat) (d : D) (ρ : Env) : Option Env := some (ρ.set i (some d))
def tgT (i j : Nat) (d : D) (ρ : Env) : Option Env := match d with
  | .tup [a, b] => some ((ρ.set i (some a)).set j (some b))
  | _ => none
section
variable {X : Cx} {own : List Nat} {pos : Pos}
theorem tg_name (i : Nat) {x : Str} (p : PG X (.Name x pos) (gName i)) (hi : i ∉ own := by decide) : VG' X own [i] (.Name x pos) (tgN i) := ⟨_, p, fun S F ρ σ H v d ρ' st r e Q q => by
  cases e
  refine q _ (st.lay hi r) (fun k hk => ?_) (by rw [List.length_set])
  rw [List.getElem?_set_ne fun e => hk (List.mem_singleton.mpr e.symm)]⟩
theorem tg_tup (i j : Nat) {es : List Expr} {kk : Nat} (p : PG X (.Tuple es kk pos) (gTup X.K 2 (gCons (gName i) (gCons (gName j) gNil)))) (hi : i ∉ own := by decide) (hj : j ∉ own := by decide) : VG' X own [i, j] (.Tuple es kk pos) (tgT i j) := ⟨_, p, fun S F ρ σ H v d ρ' st r e Q q => by
  unfold tgT at e
  split at e
  · cases e
    cases r with
    | tup h r =>
      obtain ⟨v, w, rfl, h1, h2⟩ := rds2 r
      refine ⟨_, _, rfl, (seqT st.sub h).sq, rfl, v, [w], rfl, w, [], rfl, rfl, ?_⟩
      refine q _ ((st.lay hi h1).lay hj h2) (fun k hk => ?_) (by rw [List.length_set, List.length_set])
      rw [List.getElem?_set_ne fun e => hk (by simp [e]), List.getElem?_set_ne fun e => hk (by simp [e])]
  · cases e⟩
end

/-! ### for -/
def forL (tf : D → Env → Option Env) (b : Env → Sr) : List D → Env → Sr
  | [], ρ => .nx ρ
  | d :: ds, ρ => match tf d ρ with
    | none => .st
    | some ρ1 => match b ρ1 with
      | .nx ρ2 => forL tf b ds ρ2
      | .ct ρ2 => forL tf b ds ρ2
      | .bk ρ2 => .nx ρ2
      | r => r
def forS (fi : Env → R (List D)) (tf : D → Env → Option Env) (b : Env → Sr) (ρ : Env) : Sr := bindS (fi ρ) ρ fun ds => forL tf b ds ρ
section
variable {X : Cx} {W : WX} {own own' own'' ol slots : List Nat} {tg iter : Expr} {body : List Stmt} {fi : Env → R (List D)} {tf : D → Env → Option Env} {b : Env → Sr} {pos : Pos}
theorem vs_for (hp : PassesOwn (model X.prog X.w) X.A X.env X.xe) (hc : X.calm = true) (hi : VI X W own tg iter fi) (hg : VG' X own slots tg tf) (hb : VSs X W own own own body b)
    (hs : ∀ x, foldedSetIterable iter X.env x = pure x := by intro _; rfl) : VS X W own own ol (.For tg iter body [] pos) (forS fi tf b) := by
  obtain ⟨g, pg, tk⟩ := hg
  refine ⟨psW (ps_for hp hc hi.pi pg hb.ps hs) fun D σ H ⟨B, ρ, x, q⟩ => ?_⟩
  have q0 := SEnd.out x q
  obtain ⟨S, F, bS, st⟩ := x
  refine ⟨ρ, S, F, st, q0.mono fun ds _ q J H1 A s1 n1 it => ?_⟩
  have st1 := st.grow s1 n1
  generalize hB : ext S H1 A = B1 at it st1
  have sB : Same B B1 := by rw [← hB]; exact bS.trans (ext_s A)
  refine ⟨fun i m σ H => m = ds.length - i ∧ i ≤ ds.length ∧ ∃ ρ, Sta own B1 X.K ρ σ H ∧ SEnd X.K X.mg W own ol B1 D (forL tf b (ds.drop i) ρ), ⟨ds.length, by simp, Nat.zero_le _, ρ, ⟨B1, F, Same.refl _, st1⟩, q.up sB⟩, ?_⟩
  rintro i m σ2 H2 ⟨rfl, hi, ρ2, ⟨S2, F2, b2, x2⟩, q2⟩
  obtain ⟨go, stop⟩ := it S2 H2 i b2 x2.sub
  by_cases hlt : i < ds.length
  · obtain ⟨g1, g2⟩ := go ds[i] (List.getElem?_eq_getElem hlt)
    refine .inr ⟨g1, fun σ' H' => ∃ ρ', Sta own B1 X.K ρ' σ' H' ∧ SEnd X.K X.mg W own ol B1 D (forL tf b (ds.drop (i + 1)) ρ'), fun σ' H' ⟨ρ', y, z⟩ => ⟨ds.length - (i + 1), by omega, rfl, hlt, ρ', y, z⟩, fun v H3 y => ?_⟩
    obtain ⟨s3, r3⟩ := g2 v H3 y
    rw [List.drop_eq_getElem_cons hlt] at q2
    unfold forL at q2
    cases e : tf ds[i] ρ2 with
    | none => rw [e] at q2; exact q2.elim
    | some ρ3 =>
      rw [e] at q2
      simp only at q2
      refine tk _ _ ρ2 σ2 H3 v _ ρ3 (x2.grow s3 (A := []) (fun _ z => nomatch z)) r3 e _ fun σ4 x4 _ _ => ?_
      refine ⟨B1, ρ3, ⟨_, _, b2.trans (ext_s []), x4⟩, ?_⟩
      cases eb : b ρ3 with
      | nx ρ5 => rw [eb] at q2; exact fun σ' H' z => ⟨ρ5, z, q2⟩
      | ct ρ5 => rw [eb] at q2; exact fun σ' H' z => ⟨ρ5, z, q2⟩
      | bk ρ5 => rw [eb] at q2; exact q2
      | rt d => rw [eb] at q2; exact q2
      | st => rw [eb] at q2; exact q2
      | ex c ρ5 => rw [eb] at q2; exact q2
  · have e : i = ds.length := by omega
    subst e
    rw [List.drop_length] at q2
    exact .inl ⟨stop (Nat.le_refl _), q2 σ2 H2 ⟨S2, F2, b2, x2⟩⟩

/-! ### while -/
def whileL (t : Env → R Bool) (b : Env → Sr) : Nat → Env → Sr
  | 0, _ => .st
  | n + 1, ρ => bindS (t ρ) ρ fun c => if c = true then (match b ρ with
      | .nx ρ2 => whileL t b n ρ2
      | .ct ρ2 => whileL t b n ρ2
      | .bk ρ2 => .nx ρ2
      | r => r) else .nx ρ
open Classical in
noncomputable def whileS (t : Env → R Bool) (b : Env → Sr) (ρ : Env) : Sr := if h : ∃ n, whileL t b n ρ ≠ .st then whileL t b (Classical.choose h) ρ else .st
theorem whileL_more {t : Env → R Bool} {b : Env → Sr} : ∀ {n : Nat} {ρ : Env}, whileL t b n ρ ≠ .st → ∀ k, whileL t b (n + k) ρ = whileL t b n ρ
  | 0, ρ, h, k => absurd rfl h
  | n + 1, ρ, h, k => by
    rw [Nat.add_right_comm]
    unfold whileL at h ⊢
    cases e : t ρ with
    | ok c =>
      rw [e] at h
      simp only [bindS_ok] at h ⊢
      cases c with
      | false => rfl
      | true =>
        rw [if_pos rfl] at h ⊢
        cases eb : b ρ with
        | nx ρ2 => rw [eb] at h; exact whileL_more h k
        | ct ρ2 => rw [eb] at h; exact whileL_more h k
        | _ => rfl
    | _ => rfl
theorem whileS_eq {t : Env → R Bool} {b : Env → Sr} {n : Nat} {ρ : Env} (h : whileL t b n ρ ≠ .st) : whileS t b ρ = whileL t b n ρ := by
  have hx : ∃ n, whileL t b n ρ ≠ .st := ⟨n, h⟩
  unfold whileS
  rw [dif_pos hx]
  have h2 := Classical.choose_spec hx
  generalize Classical.choose hx = m at h2
  have a1 := whileL_more h m
  have a2 := whileL_more h2 n
  rw [Nat.add_comm] at a2
  exact a2.symm.trans a1
theorem vs_while {c : Expr} {t : Env → R Bool} (hp : PassesOwn (model X.prog X.w) X.A X.env X.xe) (hc : VT X W c t) (hb : VSs X W own own own body b) : VS X W own own ol (.While c body [] pos) (whileS t b) := ⟨psW (ps_while hp hc.pt hb.ps) fun D σ H ⟨B, ρ, x, q⟩ => by
  unfold whileS at q
  split at q
  · rename_i h
    generalize Classical.choose h = n at q
    refine ⟨fun m σ H => ∃ ρ, Sta own B X.K ρ σ H ∧ SEnd X.K X.mg W own ol B D (whileL t b m ρ), ⟨n, ρ, x, q⟩, fun m σ2 H2 ⟨ρ2, x2, q2⟩ => ?_⟩
    cases m with
    | zero => exact q2.elim
    | succ m =>
      unfold whileL at q2
      refine ⟨ρ2, x2.env, (SEnd.out x2 q2).mono fun k _ q3 H3 s3 => ?_⟩
      cases k with
      | false => exact q3 σ2 H3 (x2.grow s3)
      | true =>
        refine ⟨fun σ' H' => ∃ ρ', Sta own B X.K ρ' σ' H' ∧ SEnd X.K X.mg W own ol B D (whileL t b m ρ'), fun σ' H' ⟨ρ', y, z⟩ => ⟨m, Nat.lt_succ_self _, ρ', y, z⟩, B, ρ2, x2.grow s3, ?_⟩
        rw [if_pos rfl] at q3
        cases eb : b ρ2 with
        | nx ρ5 => rw [eb] at q3; exact fun σ' H' z => ⟨ρ5, z, q3⟩
        | ct ρ5 => rw [eb] at q3; exact fun σ' H' z => ⟨ρ5, z, q3⟩
        | bk ρ5 => rw [eb] at q3; exact q3
        | rt d => rw [eb] at q3; exact q3
        | st => rw [eb] at q3; exact q3
        | ex c ρ5 => rw [eb] at q3; exact q3
  · exact q.elim⟩
end

/-! ### comprehensions -/
def wipeD (ρ : Env) : List Nat → Env
  | [] => ρ
  | v :: vs => (wipeD ρ vs).set v none
theorem wipeD_some {ρ : Env} {i : Nat} {x : D} : ∀ {vs : List Nat}, (wipeD ρ vs)[i]? = some (some x) → ρ[i]? = some (some x) ∧ i ∉ vs
  | [], h => ⟨h, by simp⟩
  | v :: vs, h => by
    unfold wipeD at h
    rcases get_set h with ⟨_, e, _⟩ | ⟨ne, h⟩
    · cases e
    · obtain ⟨h1, h2⟩ := wipeD_some h
      exact ⟨h1, by simp only [List.mem_cons, not_or]; exact ⟨ne, h2⟩⟩
theorem wipeD_length (ρ : Env) : ∀ vs : List Nat, (wipeD ρ vs).length = ρ.length
  | [] => rfl
  | v :: vs => by unfold wipeD; rw [List.length_set, wipeD_length ρ vs]
theorem wipe_eq {σ τ : L2.St} (hl : σ.length = τ.length) : ∀ {vs : List Nat}, (∀ k, k ∉ vs → σ[k]? = τ[k]?) → wipe σ vs = wipe τ vs := by
  intro vs h
  have in_ : ∀ (σ : L2.St) (vs : List Nat) (k : Nat), k ∈ vs → k < σ.length → (wipe σ vs)[k]? = some none := by
    intro σ vs
    induction vs with
    | nil => intro k hk; cases hk
    | cons v vs ih =>
      intro k hk hl
      unfold wipe
      by_cases e : v = k
      · subst e
        rw [List.getElem?_set_self (by rw [wipe_length]; exact hl)]
      · rw [List.getElem?_set_ne e]
        exact ih k ((List.mem_cons.mp hk).resolve_left (Ne.symm e)) hl
  apply List.ext_getElem?
  intro k
  by_cases hk : k ∈ vs
  · by_cases hlt : k < σ.length
    · rw [in_ σ vs k hk hlt, in_ τ vs k hk (by omega)]
    · rw [List.getElem?_eq_none (by rw [wipe_length]; omega), List.getElem?_eq_none (by rw [wipe_length]; omega)]
  · rw [wipe_out hk, wipe_out hk, h k hk]
theorem wipe_wipe (σ : L2.St) (vs : List Nat) : wipe (wipe σ vs) vs = wipe σ vs := wipe_eq (wipe_length σ vs) fun k hk => wipe_out hk
/-- nothing raised -/
def nox {α : Type} : R α → R α
  | .ex _ => .st
  | r => r
def lcL (vs : List Nat) (tf : D → Env → Option Env) (t : Env → R Bool) (f : Env → R D) (ρ : Env) : List D → R (List D)
  | [] => .ok []
  | d :: ds => match tf d (wipeD ρ vs) with
    | none => .st
    | some ρ1 => (nox (t ρ1)).bind fun c => if c = true then (nox (f ρ1)).bind fun y => (lcL vs tf t f ρ ds).bind fun r => .ok (y :: r) else lcL vs tf t f ρ ds
def lcE (vs : List Nat) (fi : Env → R (List D)) (tf : D → Env → Option Env) (t : Env → R Bool) (f : Env → R D) (ρ : Env) : R D := (fi ρ).bind fun ds => if ds.length ≤ sizeLine then (lcL vs tf t f ρ ds).bind fun r => .ok (.lst r) else .st
def yesT (_ : Env) : R Bool := .ok true
theorem nox_out {α : Type} {mg : Str → Option Value} {σ : L2.St} {H : Hp} {r : R α} {a : α} {P : α → Prop} (h : nox r = .ok a) (p : P a) : Out mg (fun _ _ _ _ => False) σ H r P := by
  cases r with
  | ok b => cases h; exact p
  | ex c => cases h
  | st => cases h
theorem REnv.stx {K : PySem.W.Frag} {ρ : Env} {σ : L2.St} {H : Hp} (h : REnv K ρ σ H) : Stx [] K H (fun _ => []) ρ σ H :=
  ⟨h.len, Same.refl H, fun _ _ e _ => e, fun i d q => let ⟨v, h1, h2⟩ := h.val i d q; ⟨v, h1, (fun z => nomatch z), fun _ => h2⟩, (fun _ z => nomatch z), (fun _ z => nomatch z)⟩
theorem REnv.wipe {K : PySem.W.Frag} {ρ : Env} {σ : L2.St} {H : Hp} (h : REnv K ρ σ H) (vs : List Nat) : REnv K (wipeD ρ vs) (L2.wipe σ vs) H := ⟨by rw [wipeD_length, wipe_length]; exact h.len, fun i d q => by
  obtain ⟨q1, q2⟩ := wipeD_some q
  obtain ⟨v, h1, h2⟩ := h.val i d q1
  exact ⟨v, (wipe_out q2).trans h1, h2⟩⟩
theorem nox_ne {α : Type} {r : R α} {c : Str} : nox r ≠ .ex c := fun h => by
  cases r with
  | ok a => cases h
  | st => cases h
  | ex d => cases h
theorem lcL_nx {vs : List Nat} {tf : D → Env → Option Env} {t : Env → R Bool} {f : Env → R D} {ρ : Env} : ∀ (ds : List D) (c : Str), lcL vs tf t f ρ ds ≠ .ex c
  | [], c, h => by cases h
  | d :: ds, c, h => by
    unfold lcL at h
    cases e : tf d (wipeD ρ vs) with
    | none => rw [e] at h; cases h
    | some ρ1 =>
      rw [e] at h
      simp only at h
      cases e1 : nox (t ρ1) with
      | ok k =>
        rw [e1, R.bind_ok] at h
        cases k with
        | true =>
          rw [if_pos rfl] at h
          cases e2 : nox (f ρ1) with
          | ok y =>
            rw [e2, R.bind_ok] at h
            cases e3 : lcL vs tf t f ρ ds with
            | ok r => rw [e3] at h; cases h
            | st => rw [e3] at h; cases h
            | ex c => exact lcL_nx ds c e3
          | st => rw [e2] at h; cases h
          | ex c => exact nox_ne e2
        | false =>
          rw [if_neg Bool.false_ne_true] at h
          exact lcL_nx ds c h
      | st => rw [e1] at h; cases h
      | ex c => exact nox_ne e1
section
variable {X : Cx} {W : WX} {own slots vs : List Nat} {tg : Expr} {fi : Env → R (List D)} {tf : D → Env → Option Env} {t : Env → R Bool} {f : Env → R D} {wi : TI} {g : TG} {tt : TT} {te : TE}
/-- the reading of a comprehension whose elements are new -/
theorem tLc_of {K : PySem.W.Frag} {mg : Str → Option Value} (hK : X.K = K) (hmg : X.mg = mg) (hg : TgOk X [] slots g tf) (hv : ∀ k ∈ slots, k ∈ vs) {σ : L2.St} {H : Hp} {Q : VK} (h : tG K mg W (lcE vs fi tf t f) σ H Q) :
    tLc (tI K mg W [] fi) g (tT K mg (fun _ _ _ _ => False) t) (tG K mg (fun _ _ _ _ => False) f) vs σ H Q := by
  subst hK
  subst hmg
  obtain ⟨ρ, re, o⟩ := h
  refine ⟨ρ, H, fun _ => [], re.stx, (Out.bind o).mono fun ds _ q J H1 A s1 n1 it D hD => ?_⟩
  by_cases hz : ds.length ≤ sizeLine
  rotate_left
  · rw [if_neg hz] at q; exact q.elim
  rw [if_pos hz] at q
  have it : IterOk X.K J (ext H H1 A) ds := it
  have re1 : REnv X.K ρ σ H1 := re.mono s1
  -- the invariant
  refine ⟨fun i m H2 => m = ds.length - i ∧ i ≤ ds.length ∧ ∃ acc ys B, Same H1 H2 ∧ H2 D = some (.lst acc) ∧ Fus X.K H2 acc ys B ∧ D ∉ B ∧ (∀ a ∈ B, H1 a = none) ∧ acc.length ≤ i ∧
      ∃ r, lcL vs tf t f ρ (ds.drop i) = .ok r ∧ ∀ v H' A, Same H H' → Fu X.K H' v (.lst (ys ++ r)) A → (∀ a ∈ A, H a = none) → Q v H', ⟨ds.length, by simp, Nat.zero_le _, [], [], [], new_same hD, upd_same, .nil, (fun z => nomatch z), (fun _ z => nomatch z), Nat.le_refl _, ?_⟩, ?_⟩
  · cases e : lcL vs tf t f ρ ds with
    | ok r => rw [e] at q; exact ⟨r, by rw [List.drop_zero]; exact e, q⟩
    | st => rw [e] at q; exact q.elim
    | ex c =>
      exfalso
      exact lcL_nx ds c e
  · rintro i m H2 ⟨rfl, hi, acc, ys, B, s2, hL, fu, nD, nB, hacc, r, hr, q⟩
    have sx : Same (ext H H1 A) H1 := ext_h s1 A
    have sE : Same (ext H H1 A) (ext (ext H H1 A) H2 []) := ext_s []
    have sF : Same (ext (ext H H1 A) H2 []) H2 := ext_h (sx.trans s2) []
    obtain ⟨go, stop⟩ := it _ H2 i sE sF
    by_cases hlt : i < ds.length
    · obtain ⟨g1, g2⟩ := go ds[i] (List.getElem?_eq_getElem hlt)
      refine .inr ⟨g1, fun H' => ∃ acc ys B, Same H1 H' ∧ H' D = some (.lst acc) ∧ Fus X.K H' acc ys B ∧ D ∉ B ∧ (∀ a ∈ B, H1 a = none) ∧ acc.length ≤ i + 1 ∧
        ∃ r, lcL vs tf t f ρ (ds.drop (i + 1)) = .ok r ∧ ∀ v H' A, Same H H' → Fu X.K H' v (.lst (ys ++ r)) A → (∀ a ∈ A, H a = none) → Q v H', fun H' y => ⟨ds.length - (i + 1), by omega, rfl, hlt, y⟩, fun x H3 y => ?_⟩
      obtain ⟨s3, r3⟩ := g2 x H3 y
      rw [List.drop_eq_getElem_cons hlt] at hr
      unfold lcL at hr
      cases e : tf ds[i] (wipeD ρ vs) with
      | none => rw [e] at hr; cases hr
      | some ρ1 =>
        rw [e] at hr
        simp only at hr
        have re3 := ((re1.mono s2).mono s3).wipe vs
        have rx : Rd X.K H3 x ds[i] := r3.mono (ext_h (sF.trans s3) [])
        refine hg H3 (fun _ => []) (wipeD ρ vs) (wipe σ vs) H3 x _ ρ1 re3.stx rx e _ fun σ4 x4 k4 l4 => ⟨?_, ?_⟩
        · rw [wipe_eq (τ := wipe σ vs) l4 fun k hk => k4 k fun z => hk (hv k z), wipe_wipe]
        · have re4 := x4.env
          cases et : nox (t ρ1) with
          | st => rw [et] at hr; cases hr
          | ex c => rw [et] at hr; cases hr
          | ok k =>
            rw [et, R.bind_ok] at hr
            refine ⟨ρ1, re4, nox_out et fun H5 s5 => ?_⟩
            cases k with
            | false =>
              rw [if_neg Bool.false_ne_true] at hr ⊢
              exact ⟨acc, ys, B, (s2.trans s3).trans s5, s5 _ _ (s3 _ _ hL), fu.same (s3.trans s5), nD, nB, Nat.le_succ_of_le hacc, r, hr, q⟩
            | true =>
              rw [if_pos rfl] at hr ⊢
              cases ef : nox (f ρ1) with
              | st => rw [ef] at hr; cases hr
              | ex c => rw [ef] at hr; cases hr
              | ok y =>
                rw [ef, R.bind_ok] at hr
                cases er : lcL vs tf t f ρ (ds.drop (i + 1)) with
                | st => rw [er] at hr; cases hr
                | ex c => rw [er] at hr; cases hr
                | ok r' =>
                  rw [er, R.bind_ok] at hr
                  cases hr
                  refine ⟨ρ1, re4.mono s5, nox_out ef fun v H6 C s6 f6 n6 => ?_⟩
                  have sA : Same H2 H6 := (s3.trans s5).trans s6
                  have hD6 : H6 D = some (.lst acc) := sA _ _ hL
                  have nDC : D ∉ C := fun z => by
                    have := n6 D z
                    rw [s5 _ _ (s3 _ _ hL)] at this
                    cases this
                  have f1 : Fus X.K H6 (acc ++ [v]) (ys ++ [y]) (B ++ (C ++ [])) := (fu.same sA).app (.cons f6 .nil fun _ _ z => nomatch z) fun a ha hb => by
                    rw [List.append_nil] at hb
                    obtain ⟨o, ho⟩ := fu.there a ha
                    have := n6 a hb
                    rw [s5 _ _ (s3 _ _ ho)] at this
                    cases this
                  have nD' : D ∉ B ++ (C ++ []) := fun z => by
                    rw [List.append_nil] at z
                    exact (List.mem_append.mp z).elim nD nDC
                  refine ⟨acc, hD6, Nat.lt_of_le_of_lt hacc (Nat.lt_of_lt_of_le hlt hz), acc ++ [v], ys ++ [y], B ++ (C ++ []), fun b o hb => ?_, upd_same, f1.at (fun a ha => upd_ne fun z => nD' (z ▸ ha)) (fun b xs hq => ?_), nD', fun a ha => ?_, ?_, r', rfl, ?_⟩
                  · rw [upd_ne (ne_of_none hb hD)]
                    exact s6 _ _ (s5 _ _ (s3 _ _ (s2 _ _ hb)))
                  · unfold TpT at hq ⊢
                    rw [upd_ne (fun z => by rw [z, hD6] at hq; cases hq)]
                    exact hq
                  · rw [List.append_nil] at ha
                    rcases List.mem_append.mp ha with z | z
                    · exact nB a z
                    · exact ((s2.trans s3).trans s5).free (n6 a z)
                  · rw [List.length_append, List.length_singleton]; omega
                  · rw [List.append_assoc]; exact q
    · have e : i = ds.length := by omega
      subst e
      rw [List.drop_length] at hr
      cases hr
      refine .inl ⟨stop (Nat.le_refl _), q _ H2 (D :: B) (s1.trans s2) (by rw [List.append_nil]; exact .lst hL fu nD) fun a ha => ?_⟩
      rcases List.mem_cons.mp ha with z | z
      · rw [z]; exact s1.free hD
      · exact s1.free (nB a z)
end
end Vs

namespace Vs
open PySem PySem.Spec PyProof.Rows L2

/-! ### comprehensions as rules -/
abbrev W0 : WX := fun _ _ _ _ => False
structure VTs (X : Cx) (W : WX) (ifs : List Expr) (t : Env → R Bool) : Prop where
  pts : PTs X ifs (tT X.K X.mg W t)
section
variable {X : Cx} {W : WX} {t : Env → R Bool}
theorem ptsW {X : Cx} {e : List Expr} {t u : TT} (h : PTs X e t) (q : ∀ σ H Q, u σ H Q → t σ H Q) : PTs X e u := ⟨fun pins s σ H Q I x => h.run pins s σ H Q I (q σ H Q x)⟩
theorem vts_nil : VTs X W [] yesT := ⟨ptsW pts_nil fun σ H Q ⟨ρ, re, o⟩ => o H (Same.refl H)⟩
theorem vts_one {c : Expr} (h : VT X W c t) : VTs X W [c] t := ⟨pts_one h.pt⟩
end
section
variable {X : Cx} {W : WX} {own0 ol : List Nat} {elt tg iter : Expr} {ifs : List Expr} {scope : Scope} {own : List (Str × Nat)} {slots : List Nat} {pos spos : Pos} {fi : Env → R (List D)} {tf : D → Env → Option Env} {t : Env → R Bool} {f : Env → R D} {g : TG}
theorem vg_lc (hc : X.calm = true) (hN : X.N.Nodup) (hi : VI X W [] tg iter fi) (ok : BlkOk X.N X.env.scope scope own) (tk : TgOk X [] slots g tf)
    (hg : ∀ (s : Shared) (H : Hp) (C : Addr) (cl : List (Str × Addr)) (fp : List Addr), PG (X.blk s H scope (compEnvC scope cl C X.env) fp) tg g)
    (ht : ∀ (s : Shared) (H : Hp) (C : Addr) (cl : List (Str × Addr)) (fp : List Addr), VTs (X.blk s H scope (compEnvC scope cl C X.env) fp) W0 ifs t)
    (he : ∀ (s : Shared) (H : Hp) (C : Addr) (cl : List (Str × Addr)) (fp : List Addr), VG (X.blk s H scope (compEnvC scope cl C X.env) fp) W0 elt f)
    (hv : ∀ k ∈ slots, k ∈ own.map (·.2) := by decide) (hs : ∀ x, foldedSetIterable iter X.env x = pure x := by intro _; rfl) : VG X W (.ListComp elt [⟨tg, iter, ifs, 0⟩] scope pos) (lcE (own.map (·.2)) fi tf t f) :=
  ⟨peW (pe_lc (tt := tT X.K X.mg W0 t) (te := tG X.K X.mg W0 f) hc hN hi.pi ok hg (fun s H C cl fp => (ht s H C cl fp).pts) (fun s H C cl fp => (he s H C cl fp).pe) hs) fun σ H Q q => tLc_of rfl rfl tk hv q⟩
theorem vs_setLc (i : Nat) {y : Str} {py : Pos} (hc : X.calm = true) (hN : X.N.Nodup) (hy : X.N[i]? = some y) (hyl : X.env.scope.names.lookup y = some .local) (hsw : swapsWith (.ListComp elt [⟨tg, iter, ifs, 0⟩] scope pos) (some (.Name y py)) spos.line X.env = pure true)
    (hi : VI X W [] tg iter fi) (ok : BlkOk X.N X.env.scope scope own) (tk : TgOk X [] slots g tf)
    (hg : ∀ (s : Shared) (H : Hp) (C : Addr) (cl : List (Str × Addr)) (fp : List Addr), PG (X.blk s H scope (compEnvC scope cl C X.env) fp) tg g)
    (ht : ∀ (s : Shared) (H : Hp) (C : Addr) (cl : List (Str × Addr)) (fp : List Addr), VTs (X.blk s H scope (compEnvC scope cl C X.env) fp) W0 ifs t)
    (he : ∀ (s : Shared) (H : Hp) (C : Addr) (cl : List (Str × Addr)) (fp : List Addr), VG (X.blk s H scope (compEnvC scope cl C X.env) fp) W0 elt f)
    (hv : ∀ k ∈ slots, k ∈ own.map (·.2) := by decide) (hs : ∀ x, foldedSetIterable iter X.env x = pure x := by intro _; rfl) : VS X W own0 (i :: own0) ol (.Assign [.Name y py] (.ListComp elt [⟨tg, iter, ifs, 0⟩] scope pos) spos) (asgS i (lcE (own.map (·.2)) fi tf t f)) :=
  ⟨psW (ps_setLc (i := i) (tt := tT X.K X.mg W0 t) (te := tG X.K X.mg W0 f) hc hN hy hyl hsw hi.pi ok hg (fun s H C cl fp => (ht s H C cl fp).pts) (fun s H C cl fp => (he s H C cl fp).pe) hs) fun D σ H ⟨B, ρ, x, q⟩ => tLc_of rfl rfl tk hv ⟨ρ, x.env, (SEnd.out x q).mono fun d _ q v H' A s fu n => by
    obtain ⟨S, F, b, y⟩ := x
    exact q _ _ ⟨_, _, b.trans (ext_s []), y.put s fu n i⟩⟩⟩
/-- the target's part of a comprehension -/
theorem tk_name {X : Cx} {own : List Nat} (i : Nat) (hi : i ∉ own := by decide) : TgOk X own [i] (gName i) (tgN i) := fun S F ρ σ H v d ρ' st r e Q q => by
  cases e
  refine q _ (st.lay hi r) (fun k hk => ?_) (by rw [List.length_set])
  rw [List.getElem?_set_ne fun e => hk (List.mem_singleton.mpr e.symm)]
theorem tk_tup {X : Cx} {own : List Nat} (i j : Nat) (hi : i ∉ own := by decide) (hj : j ∉ own := by decide) : TgOk X own [i, j] (gTup X.K 2 (gCons (gName i) (gCons (gName j) gNil))) (tgT i j) := fun S F ρ σ H v d ρ' st r e Q q => by
  unfold tgT at e
  split at e
  · cases e
    cases r with
    | tup h r =>
      obtain ⟨v, w, rfl, h1, h2⟩ := rds2 r
      refine ⟨_, _, rfl, (seqT st.sub h).sq, rfl, v, [w], rfl, w, [], rfl, rfl, ?_⟩
      refine q _ ((st.lay hi h1).lay hj h2) (fun k hk => ?_) (by rw [List.length_set, List.length_set])
      rw [List.getElem?_set_ne fun e => hk (by simp [e]), List.getElem?_set_ne fun e => hk (by simp [e])]
  · cases e
end

/-! ### what changes a list in place -/
section
variable {K : PySem.W.Frag} {S H H' : Hp} {own : List Nat} {F : Nat → List Addr} {ρ : Env} {σ : L2.St} {q p : Addr} {o' : HO}
theorem upd_seqT (hq : ∃ o, H q = some o ∧ ¬ Stt o) {b : Addr} {xs : List V} (h : TpT K H b xs) : TpT K (upd H q o') b xs := by
  obtain ⟨o, ho, ns⟩ := hq
  unfold TpT at h ⊢
  rw [upd_ne (fun z => by rw [z, ho] at h; cases h; exact ns trivial)]
  exact h
/-- slot i's data is changed at q -/
theorem Stx.mut (st : Stx own K S F ρ σ H) {i : Nat} {v : V} {d' : D} {A : List Addr} (hi : i ∈ own) (hv : σ[i]? = some (some v)) (hq : ∃ o, H q = some o ∧ ¬ Stt o) (hS : S q = none) (hF : ∀ j ∈ own, j ≠ i → q ∉ F j) (ns : ¬ Stt o')
    (f : Fu K (upd H q o') v d' A) (hA : ∀ a ∈ A, S a = none ∧ ∀ j ∈ own, j ≠ i → a ∉ F j) :
    Stx own K S (fun j => if j = i then A else F j) (ρ.set i (some d')) σ (upd H q o') := by
  refine ⟨by rw [List.length_set]; exact st.len, fun b o e => ?_, fun a o e t => ?_, fun j e w => ?_, fun j m a ha => ?_, fun j mj k mk ne a ha => ?_⟩
  · rw [upd_ne (fun z => by rw [z, hS] at e; cases e)]
    exact st.sub b o e
  · by_cases z : a = q
    · rw [z, upd_same] at e
      cases e
      exact absurd t ns
    · rw [upd_ne z] at e
      exact st.cl a o e t
  · rcases get_set w with ⟨rfl, e1, hl⟩ | ⟨ne, w⟩
    · cases e1
      refine ⟨v, hv, fun _ => ?_, fun m => absurd hi m⟩
      rw [if_pos rfl]
      exact f
    · obtain ⟨u, h1, h2, h3⟩ := st.val j e w
      refine ⟨u, h1, fun m => ?_, h3⟩
      rw [if_neg ne]
      exact (h2 m).at (fun a ha => upd_ne fun (z : a = q) => hF j m ne (z ▸ ha)) fun b xs hs => upd_seqT hq hs
  · by_cases e : j = i
    · rw [if_pos e] at ha
      exact ⟨(hA a ha).1, f.soft a ha⟩
    · rw [if_neg e] at ha
      obtain ⟨h1, o, h2, h3⟩ := st.out j m a ha
      refine ⟨h1, o, ?_, h3⟩
      rw [upd_ne fun (z : a = q) => hF j m e (z ▸ ha)]
      exact h2
  · intro hk
    by_cases ej : j = i
    · rw [if_pos ej] at ha
      have ek : k ≠ i := fun z => ne (ej.trans z.symm)
      rw [if_neg ek] at hk
      exact (hA a ha).2 k mk ek hk
    · rw [if_neg ej] at ha
      by_cases ek : k = i
      · rw [if_pos ek] at hk
        exact (hA a hk).2 j mj ej ha
      · rw [if_neg ek] at hk
        exact st.dis j mj k mk ne a ha hk
/-- what was made since is nobody's -/
theorem Stx.fresh (st : Stx own K S F ρ σ H) (s : Same H H') {v : V} {d : D} {A : List Addr} (f : Fu K H' v d A) (n : ∀ a ∈ A, H a = none) : ∀ a ∈ A, ext S H' [] a = none ∧ ∀ j ∈ own, a ∉ F j := fun a ha => by
  obtain ⟨o, h1, h2⟩ := f.soft a ha
  refine ⟨ext_none (st.sub.free (n a ha)) (fun z => nomatch z) (fun o' e => by rw [h1] at e; cases e; exact h2), fun j m z => ?_⟩
  obtain ⟨_, o2, h3, _⟩ := st.out j m a z
  rw [n a ha] at h3
  cases h3
/-- a list of its own: its address and what stands there -/
theorem Fu.list {v : V} {ds : List D} {A : List Addr} (f : Fu K H v (.lst ds) A) : ∃ p vs A', v = .ref p ∧ A = p :: A' ∧ H p = some (.lst vs) ∧ Fus K H vs ds A' ∧ p ∉ A' := by
  cases f with
  | lst h r n => exact ⟨_, _, _, rfl, rfl, h, r, n⟩
/-- the same list with other items -/
theorem fu_relist {vs' : List V} {ds' : List D} {A' : List Addr} (hp : ∃ o, H p = some o ∧ ¬ Stt o) (r : Fus K H vs' ds' A') (n : p ∉ A') : Fu K (upd H p (.lst vs')) (.ref p) (.lst ds') (p :: A') :=
  .lst upd_same (r.at (fun a ha => upd_ne fun z => n (z ▸ ha)) fun b xs hs => upd_seqT hp hs) n
end

def appS (i : Nat) (f : Env → R D) (ρ : Env) : Sr := match ρ[i]? with
  | some (some (.lst ds)) => bindS (f ρ) ρ fun d => if ds.length < sizeLine then .nx (ρ.set i (some (.lst (ds ++ [d])))) else .st
  | _ => .st
def setS (i : Nat) (fk fe : Env → R D) (ρ : Env) : Sr := bindS (fe ρ) ρ fun d => match ρ[i]? with
  | some (some (.lst ds)) => bindS (fk ρ) ρ fun k => match k with
    | .int n => (match ixN ds.length n with
      | some j => .nx (ρ.set i (some (.lst (ds.set j d))))
      | none => .st)
    | _ => .st
  | _ => .st
def clearS (i : Nat) (ρ : Env) : Sr := match ρ[i]? with
  | some (some (.lst _)) => .nx (ρ.set i (some (.lst [])))
  | _ => .st
section
variable {X : Cx} {W : WX} {own own' ol : List Nat} {st : Stmt} {f fk fe : Env → R D}
theorem vs_append (i : Nat) (p : PS X st (tDrop (tBM X.K "list" rAppend (tVar i) (tCons (tG X.K X.mg W f) tNil)))) (hi : i ∈ own := by decide) : VS X W own own ol st (appS i f) := ⟨psW p fun D σ H ⟨B, ρ, x, q⟩ => by
  unfold appS at q
  split at q
  · rename_i ds ei
    have q := SEnd.out x q
    obtain ⟨S, F, b, y⟩ := x
    obtain ⟨v, h1, h2, _⟩ := y.val i _ ei
    obtain ⟨pa, vs, A', rfl, eF, hp, r, n⟩ := (h2 hi).list
    refine ⟨_, h1, .inl ⟨rfl, _, .inl (.inl hp)⟩, ρ, y.env, q.mono fun d _ q w H1 C s1 f1 n1 => ?_⟩
    by_cases hz : ds.length < sizeLine
    rotate_left
    · rw [if_neg hz] at q; exact q.elim
    rw [if_pos hz] at q
    refine ⟨pa, vs, w, rfl, rfl, s1 _ _ hp, by rw [r.length]; exact hz, ?_⟩
    have y1 := y.grow s1 (A := []) (fun _ z => nomatch z)
    have mp : pa ∈ F i := by rw [eF]; exact List.mem_cons_self
    have fr := y.fresh s1 f1 n1
    have hpq : ∃ o, H1 pa = some o ∧ ¬ Stt o := ⟨_, s1 _ _ hp, fun z => (show False from z)⟩
    have nC : pa ∉ C := fun z => by have := n1 pa z; rw [hp] at this; cases this
    have r1 : Fus X.K H1 (vs ++ [w]) (ds ++ [d]) (A' ++ (C ++ [])) := (r.same s1).app (.cons f1 .nil fun _ _ z => nomatch z) fun a ha hb => by
      rw [List.append_nil] at hb
      exact (fr a hb).2 i hi (by rw [eF]; exact List.mem_cons_of_mem _ ha)
    rw [List.append_nil] at r1
    have n2 : pa ∉ A' ++ C := fun z => (List.mem_append.mp z).elim n nC
    refine q _ _ ⟨_, _, b.trans (ext_s []), y1.mut hi h1 hpq (y1.out i hi pa mp).1 (fun j m ne z => y.dis j m i hi ne pa z mp) (fun z => (show False from z)) (fu_relist hpq r1 n2) fun a ha => ?_⟩
    have old : ∀ a, a ∈ F i → ext S H1 [] a = none ∧ ∀ j ∈ own, j ≠ i → a ∉ F j := fun a hm => ⟨(y1.out i hi a hm).1, fun j m ne z' => y.dis j m i hi ne a z' hm⟩
    rcases List.mem_cons.mp ha with z | z
    · rw [z]
      exact old pa mp
    · rcases List.mem_append.mp z with z | z
      · exact old a (by rw [eF]; exact List.mem_cons_of_mem _ z)
      · exact ⟨(fr a z).1, fun j m _ => (fr a z).2 j m⟩
  · exact q.elim⟩
theorem vs_clear (i : Nat) (p : PS X st (tDrop (tBM0 X.K "list" rClear (tVar i)))) (hi : i ∈ own := by decide) : VS X W own own ol st (clearS i) := ⟨psW p fun D σ H ⟨B, ρ, x, q⟩ => by
  unfold clearS at q
  split at q
  · rename_i ds ei
    obtain ⟨S, F, b, y⟩ := x
    obtain ⟨v, h1, h2, _⟩ := y.val i _ ei
    obtain ⟨pa, vs, A', rfl, eF, hp, r, n⟩ := (h2 hi).list
    have mp : pa ∈ F i := by rw [eF]; exact List.mem_cons_self
    have hpq : ∃ o, H pa = some o ∧ ¬ Stt o := ⟨_, hp, fun z => (show False from z)⟩
    refine ⟨_, h1, .inl ⟨rfl, _, .inl (.inl hp)⟩, pa, vs, rfl, rfl, hp, ?_⟩
    refine q _ _ ⟨_, _, b, y.mut hi h1 hpq (y.out i hi pa mp).1 (fun j m ne z => y.dis j m i hi ne pa z mp) (fun z => (show False from z)) (fu_relist (A' := []) hpq .nil fun z => nomatch z) fun a ha => ?_⟩
    rcases List.mem_cons.mp ha with z | z
    · rw [z]
      exact ⟨(y.out i hi pa mp).1, fun j m ne z' => y.dis j m i hi ne pa z' mp⟩
    · cases z
  · exact q.elim⟩
/-- x[k] = e -/
theorem vs_setItem (i : Nat) (p : PS X st (tAsg (tG X.K X.mg W fe) (gSub (tVar i) (tF X.K X.mg W fk) rSetL))) (hi : i ∈ own := by decide) : VS X W own own ol st (setS i fk fe) := ⟨psW p fun D σ H ⟨B, ρ, x, q⟩ => by
  unfold setS at q
  have q := SEnd.out x q
  obtain ⟨S, F, b, y⟩ := x
  refine ⟨ρ, y.env, q.mono fun d _ q w H1 C s1 f1 n1 => ?_⟩
  split at q
  · rename_i ds ei
    have y1 := y.grow s1 (A := []) (fun _ z => nomatch z)
    have fr := y.fresh s1 f1 n1
    have q := SEnd.out (own' := own) (σ := σ) (H := H1) ⟨_, _, b.trans (ext_s []), y1⟩ q
    obtain ⟨v, h1, h2, _⟩ := y1.val i _ ei
    obtain ⟨pa, vs, A', rfl, eF, hp, r, n⟩ := (h2 hi).list
    refine ⟨_, h1, ρ, y1.env, q.mono fun k _ q kv H2 s2 rk => ?_⟩
    split at q
    · rename_i kn hkn
      split at q
      · rename_i jj ej
        cases rk
        have y2 := y1.grow s2 (A := []) (fun _ z => nomatch z)
        have mp : pa ∈ F i := by rw [eF]; exact List.mem_cons_self
        have hpq : ∃ o, H2 pa = some o ∧ ¬ Stt o := ⟨_, s2 _ _ hp, fun z => (show False from z)⟩
        refine ⟨pa, vs, kn, jj, rfl, rfl, s2 _ _ hp, by rw [r.length]; exact ej, ?_⟩
        have f2 := f1.same s2
        have nF : ∀ a ∈ C, a ∉ A' := fun a ha z => (fr a ha).2 i hi (by rw [eF]; exact List.mem_cons_of_mem _ z)
        obtain ⟨A2, r2, k2⟩ := Fus.set (A := A') (ds := ds) (vs := vs) f2 (r.same s2) nF jj
        have nC : pa ∉ C := fun z => (fr pa z).2 i hi mp
        have n2 : pa ∉ A2 := fun z => (k2 pa z).elim n nC
        have old : ∀ a, a ∈ F i → ext (ext S H1 []) H2 [] a = none ∧ ∀ j ∈ own, j ≠ i → a ∉ F j := fun a hm => ⟨(y2.out i hi a hm).1, fun j m ne z' => y2.dis j m i hi ne a z' hm⟩
        refine q _ _ ⟨_, _, (b.trans (ext_s [])).trans (ext_s []), y2.mut hi h1 hpq (old pa mp).1 (old pa mp).2 (fun z => (show False from z)) (fu_relist hpq r2 n2) fun a ha => ?_⟩
        rcases List.mem_cons.mp ha with z | z
        · rw [z]
          exact old pa mp
        · rcases k2 a z with z | z
          · exact old a (by rw [eF]; exact List.mem_cons_of_mem _ z)
          · refine ⟨ext_none (fr a z).1 (fun z => nomatch z) (fun o' e => ?_), fun j m _ => (fr a z).2 j m⟩
            obtain ⟨o, g1, g2⟩ := f2.soft a z
            rw [g1] at e; cases e; exact g2
      · exact q.elim
    · exact q.elim
  · exact q.elim⟩
end
end Vs

namespace Vs
open PySem PySem.Spec PyProof.Rows L2

/-! ### range with a step -/
def okRange (i j c : Int) : Prop := c ≠ 0 ∧ c.natAbs < 1073741824 ∧ Builtin.Range.small i j c = true
instance (i j c : Int) : Decidable (okRange i j c) := inferInstanceAs (Decidable (_ ∧ _))
def rngS : List D → R (List D)
  | [.int i, .int j, .int c] => if okRange i j c then .ok (rngC i c (Builtin.Range.rangeSize i j c).toNat) else .st
  | _ => .st
theorem rds3 {K : PySem.W.Frag} {H : Hp} {vs : List V} {d e f : D} (r : Rds K H vs [d, e, f]) : ∃ v w u, vs = [v, w, u] ∧ Rd K H v d ∧ Rd K H w e ∧ Rd K H u f := by
  cases r with
  | cons h r => cases r with
    | cons h2 r => cases r with
      | cons h3 r => cases r; exact ⟨_, _, _, rfl, h, h2, h3⟩
section
variable {X : Cx} {W : WX} {own own' ol : List Nat} {a b c tg : Expr} {fs : Env → R (List D)} {p pos : Pos}
theorem vi_rng3 (hg : Gl X "range") (hm : X.mg "range" = none) (ha : VA X W [a, b, c] fs) (hs : starEach [a, b, c] X.env = (false, eval a X.env) :: starEach [b, c] X.env := by rfl) (hpl : (backTo pos (starEach [b, c] X.env)).any (·.1) = false := by rfl) :
    VI X W own tg (.Call (.Name "range" p) [a, b, c] [] pos) (itR rngS fs) :=
  ⟨piW (pi_range3 hg hm ha.pa hs hpl) fun σ H Q ⟨ρ, S, F, st, o⟩ => ⟨ρ, st.env, (Out.bind o).mono fun ds _ q vs H' s r => by
    unfold rngS at q
    split at q
    · obtain ⟨v, w, u, rfl, h1, h2, h3⟩ := rds3 r
      split at q
      · rename_i c
        cases h1
        cases h2
        cases h3
        exact ⟨_, _, _, _, rfl, ⟨c.1, c.2.1, c.2.2, rangeSize_toNat _ _ _⟩, q _ H' [] s (fun _ z => nomatch z) (it_rngC _ _ _)⟩
      · exact q.elim
    · exact q.elim⟩⟩

/-! ### x += e -/
def augS (i : Nat) (g : D → D → R D) (f : Env → R D) (ρ : Env) : Sr := bindS (varE i ρ) ρ fun d => bindS (f ρ) ρ fun e => bindS (g d e) ρ fun z => .nx (ρ.set i (some z))
theorem vs_aug (i : Nat) {st : Stmt} {r : R2} {g : D → D → R D} {f : Env → R D} (p : PS X st (tAug i (tF X.K X.mg W f) r)) (k : OpD X r g) (n : NoEx2 g) : VS X W own (i :: own) ol st (augS i g f) := ⟨psW p fun D σ H ⟨B, ρ, x, q⟩ => by
  unfold augS at q
  cases hv : varE i ρ with
  | st => rw [hv] at q; exact q.elim
  | ex c =>
    unfold varE at hv
    split at hv <;> cases hv
  | ok d =>
    rw [hv, bindS_ok] at q
    have q := SEnd.out x q
    obtain ⟨S, F, b, y⟩ := x
    have e : ρ[i]? = some (some d) := by
      unfold varE at hv
      split at hv
      · rename_i e; cases hv; exact e
      · cases hv
    obtain ⟨v, h1, h2⟩ := y.env.val i d e
    refine ⟨v, h1, ρ, y.env, q.mono fun z _ q w H1 s1 r1 => ?_⟩
    cases hg : g d z with
    | st => rw [hg] at q; exact q.elim
    | ex c => exact absurd hg (n d z c)
    | ok u =>
      rw [hg, bindS_ok] at q
      refine k v w d z H1 _ u (h2.mono s1) r1 hg fun u' H2 A s2 f2 n2 => ?_
      exact q _ _ ⟨_, _, b.trans (ext_s []), y.put (s1.trans s2) f2 (fun a m => s1.free (n2 a m)) i⟩⟩
/-- += of ints and texts -/
def rAddI : R2 := fun x y H Q => rI0 (fun i j => .int (i + j)) x y H Q ∨ ∃ i j, x = .str i ∧ y = .str j ∧ i.length + j.length ≤ sizeLine ∧ Q (.str (i ++ j)) H
theorem ip_addA : PIp X .Add rAddI := fun pins s σ H x y v u Q I rx ry h => (iop_add.or iop_add_str) pins s σ H x y v u Q I rx ry h
def addI : D → D → R D
  | .int i, .int j => .ok (.int (i + j))
  | .str x, .str y => if x.length + y.length ≤ sizeLine then .ok (.str (x ++ y)) else .st
  | _, _ => .st
theorem nx_addI : NoEx2 addI := fun d e c h => by unfold addI at h; split at h <;> first | cases h | (split at h <;> cases h)
theorem d_addI : OpD X rAddI addI := fun x y d e H Q z rx ry h q => by
  unfold addI at h
  split at h
  · cases h; cases rx; cases ry
    exact .inl ⟨_, _, rfl, rfl, q _ H [] (Same.refl H) (.int _) (fun _ h => nomatch h)⟩
  · split at h
    · rename_i c
      cases h; cases rx; cases ry
      exact .inr ⟨_, _, rfl, rfl, c, q _ H [] (Same.refl H) (.str _) (fun _ h => nomatch h)⟩
    · cases h
  · cases h
end

/-! ### the text's defs -/
/-- a def of the text, as the top left it -/
def Def (K : PySem.W.Frag) (mg : Str → Option Value) (x : Str) (st : Stmt) : Prop := ∃ f fd, Fun K x x st f fd ∧ mg x = some (.ref f)
/-- a def that keeps its promise -/
def Cal (P : Program) (w : World) (K : PySem.W.Frag) (mg : Str → Option Value) (base : Heap) (x : Str) (ps : List Str) (k : Nat) (m : List D → R D) : Prop :=
  ∃ f fd, mg x = some (.ref f) ∧ PySem.W.keepIn K (.ref f) = true ∧ Binds K fd ps [] ∧ FnOk P w K mg base (L2.CX P w) k f fd ps (spF K mg ps.length m)
section
variable {P : Program} {w : World} {K : PySem.W.Frag} {mg : Str → Option Value} {base : Heap}
theorem cal_mk {x : Str} {st : Stmt} {N ps : List Str} {k : Nat} {own' : List Nat} {b : Env → Sr} (F : Def K mg x st) (S : FnScope N ps (defScope st)) (hps : ps.length ≤ N.length)
    (hb : ∀ (kV doc pm : Value) (an : Option Addr) (cdv ct : Value) (us : List Value), us.length = ps.length → bindArgs (PySem.W.fnOf x x (defArgs st) (defBody st) (defScope st) .none kV doc pm an cdv ct) ⟨us, []⟩ = pure (ps.zip us))
    (hbody : ∀ (f : Addr) (cdv : Value) (A : Around) (outer : List PySem.Env) (s : Shared) (H : Hp) (E : XK), Room k (A.deeper (envOfC x (defScope st) s.heap.objs.size f cdv)) →
      VSs (cxOf (L2.CX P w) P w K mg base N x (defScope st) f cdv A outer s H E) (fun cls d _ H => E cls d H) [] own' [] (defBody st) b) :
    Cal P w K mg base x ps (k + 1) (runB N.length b) := by
  obtain ⟨f, fd, F, h⟩ := F
  exact ⟨f, fd, h, F.kp, F.binds hb, fn_ok F S hps (fun cdv A outer s H E hr => hbody f cdv A outer s H E hr)⟩
theorem vg_fn {X : Cx} {W : WX} {x : Str} {ps : List Str} {k k' : Nat} {m : List D → R D} {p pos : Pos} {e : Expr} {es : List Expr} {fs : Env → R (List D)} (C : Cal X.prog X.w X.K X.mg X.base x ps k m) (hr : Room k' X.A) (tk : Takes X W) (hg : Gl X x)
    (ha : VA X W (e :: es) fs) (hl : LenA fs ps.length) (hk : k ≤ k' := by decide) (hdb : (x == ("__debug__" : Str)) = false := by decide) (he : starEach (e :: es) X.env = (false, eval e X.env) :: starEach es X.env := by rfl) (hpl : (backTo pos (starEach es X.env)).any (·.1) = false := by rfl) :
    VG X W (.Call (.Name x p) (e :: es) [] pos) (callF m fs) := by
  obtain ⟨f, fd, h1, h2, h3, h4⟩ := C
  exact vg_call h4 (hr.mono hk) tk hg h1 h2 h3 ha hl hdb he hpl
end
end Vs

namespace Vs
open PySem PySem.Spec PyProof.Rows L2

/-! ### the end of a law -/
/-- a def of the text in the written part -/
def DefK (K : PySem.W.Frag) (x : Str) (st : Stmt) : Prop := ∃ (f : Addr) (oc : Value) (od : Option Addr) (kV doc pm : Value) (an : Option Addr) (cd ct : Value) (sl : Array (Option Value)),
  PySem.W.nsIn K mainGlobals x = some (some (.ref f)) ∧ K.lookup f = some ⟨oc, od, .func (PySem.W.fnOf x x (defArgs st) (defBody st) (defScope st) .none kV doc pm an cd ct), sl⟩ ∧ PySem.W.codeIn K cd x = true ∧ PySem.W.keepIn K (.ref f) = true
theorem defK_mk {K : PySem.W.Frag} {x : Str} {st : Stmt} {f : Addr} {oc : Value} {od : Option Addr} {kV doc pm : Value} {an : Option Addr} {cd ct : Value} {sl : Array (Option Value)}
    (a : PySem.W.nsIn K mainGlobals x = some (some (.ref f))) (l : K.lookup f = some ⟨oc, od, .func (PySem.W.fnOf x x (defArgs st) (defBody st) (defScope st) .none kV doc pm an cd ct), sl⟩) (c : PySem.W.codeIn K cd x = true) (k : PySem.W.keepIn K (.ref f) = true) : DefK K x st :=
  ⟨f, oc, od, kV, doc, pm, an, cd, ct, sl, a, l, c, k⟩
def NoK (K : PySem.W.Frag) (x : Str) : Prop := PySem.W.nsIn K mainGlobals x = some none
section
variable {K : PySem.W.Frag} {h : Heap} {mg : Str → Option Value} {x : Str} {st : Stmt}
theorem def_of (X : K.In h) (G : h.Ns mainGlobals mg) (d : DefK K x st) : Def K mg x st := by
  obtain ⟨f, oc, od, kV, doc, pm, an, cd, ct, sl, a, l, c, k⟩ := d
  exact ⟨f, _, fun_mk l c k, PySem.W.mg_of X G a⟩
theorem no_of (X : K.In h) (G : h.Ns mainGlobals mg) (d : NoK K x) : mg x = none := PySem.W.mg_none_of X G d
end
/-- the script: at most 63 ints of at most 2^20 bits -/
structure Scr (ns : List Int) : Prop where
  len : ns.length ≤ 63
  bits : ∀ z ∈ ns, Builtin.Int.intBits z ≤ 1048576
def spLaw (K : PySem.W.Frag) : Sp := fun vs H Q _ => ∃ (a : Addr) (ns : List Int), vs = [.ref a] ∧ SqL K H a (ns.map V.int) ∧ Scr ns ∧ ∀ H', Q (.bl true) H'
theorem rds_ints {K : PySem.W.Frag} {H : Hp} : ∀ ns : List Int, Rds K H (ns.map V.int) (ns.map D.int)
  | [] => .nil
  | n :: ns => .cons (.int n) (rds_ints ns)
theorem law_of {P : Program} {w : World} {K : PySem.W.Frag} {mg : Str → Option Value} {base : Heap} {k : Nat} {f : Addr} {fd : FuncData} {ps : List Str} {m : List D → R D}
    (F : FnOk P w K mg base (L2.CX P w) k f fd ps (spF K mg 1 m)) (h : ∀ ns, Scr ns → m [.lst (ns.map D.int)] = .ok (.bl true)) : FnOk P w K mg base (L2.CX P w) k f fd ps (spLaw K) :=
  F.imp fun vs H Q E ⟨a, ns, e, hS, hs, q⟩ => by
    subst e
    refine ⟨rfl, [.lst (ns.map D.int)], .cons (.lst hS (rds_ints ns)) .nil, ?_⟩
    rw [h ns hs]
    intro v H' A _ f _
    cases f
    exact q H'
theorem walk {l : PySem.W.OpenLaw} {q : Program} {loose : List Str} {XP : (Str → Option Value) → Heap → Prop} {YP : World → Heap → Prop} {d : DefRec} {K : Params → PySem.W.Frag} {k : Nat} (hn : l.most = some 63) (hdf : d.params.defaults = []) (hr : Room k callerA)
    (hY : ∀ (w : World) (h : Heap), YP w h → (K w.params).In h)
    (F : ∀ (w : World) (mg : Str → Option Value) (fa : Addr) (h : Heap), (K w.params).In h → h.Ns mainGlobals mg → mg d.name = some (.ref fa) →
      ∃ fd : FuncData, (∀ (s : Shared) (u : Value), BindsTo s fd ⟨[u], []⟩ [("_law_script", u)]) ∧ ∀ base : Heap, (K w.params).In base → base.Ns mainGlobals mg → FnOk l.prog w (K w.params) mg base (L2.CX l.prog w) k fa fd ["_law_script"] (spLaw (K w.params))) :
    PySem.W.WalkO q loose XP YP l.row.toRowW d [] (fun f vs => PySem.call f vs) :=
  L2.walk_ofB (n := 63) (k := k) (x := "_law_script") (CX := fun w => L2.CX l.prog w) (sp := fun w => spLaw (K w.params)) hn (by decide) hdf hr hY F
    (fun w H a ns hl hb _ hS => ⟨a, ns, rfl, hS, ⟨hl, hb⟩, fun _ => rfl⟩) fun w H s e s' z => by
      obtain ⟨_, _, _, _, _, _, _, _, _, _, _, _, z⟩ := z
      exact z
/-- the law's own def -/
def DefL (K : PySem.W.Frag) (mg : Str → Option Value) (st : Stmt) (fa : Addr) : Prop := ∃ fd, Fun K "law" "law" st fa fd
theorem defL_of {K : PySem.W.Frag} {h : Heap} {mg : Str → Option Value} {st : Stmt} {fa : Addr} (X : K.In h) (G : h.Ns mainGlobals mg) (hfa : mg "law" = some (.ref fa)) (d : DefK K "law" st) : ∃ fd, Fun K "law" "law" st fa fd := by
  obtain ⟨f, oc, od, kV, doc, pm, an, cd, ct, sl, a, l, c, k⟩ := d
  have e := hfa.symm.trans (PySem.W.mg_of X G a)
  cases e
  exact ⟨_, fun_mk l c k⟩
theorem law_end {P : Program} {w : World} {K : PySem.W.Frag} {mg : Str → Option Value} {st : Stmt} {fa : Addr} {N : List Str} {k : Nat} {own' : List Nat} {b : Env → Sr} (d : ∃ fd, Fun K "law" "law" st fa fd) (S : FnScope N ["_law_script"] (defScope st)) (hps : 1 ≤ N.length)
    (hb : ∀ (kV doc pm : Value) (an : Option Addr) (cdv ct : Value) (s : Shared) (v : Value), BindsTo s (PySem.W.fnOf "law" "law" (defArgs st) (defBody st) (defScope st) .none kV doc pm an cdv ct) ⟨[v], []⟩ [("_law_script", v)])
    (hbody : ∀ (base : Heap), K.In base → base.Ns mainGlobals mg → ∀ (f : Addr) (cdv : Value) (A : Around) (outer : List PySem.Env) (s : Shared) (H : Hp) (E : XK), Room k (A.deeper (envOfC "law" (defScope st) s.heap.objs.size f cdv)) →
      VSs (cxOf (L2.CX P w) P w K mg base N "law" (defScope st) f cdv A outer s H E) (fun cls d _ H => E cls d H) [] own' [] (defBody st) b)
    (h : ∀ ns, Scr ns → runB N.length b [.lst (ns.map D.int)] = .ok (.bl true)) :
    ∃ fd : FuncData, (∀ (s : Shared) (u : Value), BindsTo s fd ⟨[u], []⟩ [("_law_script", u)]) ∧ ∀ base : Heap, K.In base → base.Ns mainGlobals mg → FnOk P w K mg base (L2.CX P w) (k + 1) fa fd ["_law_script"] (spLaw K) := by
  obtain ⟨fd, F⟩ := d
  refine ⟨fd, fun s u => ?_, fun base h1 h2 => law_of (fn_ok F S hps fun cdv A outer s H E hr => hbody base h1 h2 fa cdv A outer s H E hr) h⟩
  obtain ⟨oc, od, kV, doc, pm, an, cdv, ct, osl, rfl, _, _⟩ := F.ex
  exact hb kV doc pm an cdv ct s u
end Vs

namespace Vs
open PySem PySem.Spec PyProof.Rows L2

/-! ### return (x, y): both lists handed out -/
def retV2 (i j : Nat) (ρ : Env) : Sr := match ρ[i]?, ρ[j]? with
  | some (some d), some (some e) => .rt (.tup [d, e])
  | _, _ => .st
section
variable {X : Cx} {W : WX} {own own' ol : List Nat} {pos : Pos}
theorem vs_retV2 (i j : Nat) {x y : Str} {p1 p2 p3 : Pos} {c : Nat} (pi : PE X (.Name x p1) (tVar i)) (pj : PE X (.Name y p2) (tVar j)) (hi : i ∈ own := by decide) (hj : j ∈ own := by decide) (hij : i ≠ j := by decide)
    (h1 : starEach [.Name x p1, .Name y p2] X.env = (false, eval (.Name x p1) X.env) :: starEach [.Name y p2] X.env := by rfl) (h2 : starEach [.Name y p2] X.env = (false, eval (.Name y p2) X.env) :: starEach [] X.env := by rfl) :
    VS X W own own' ol (.Return (some (.Tuple [.Name x p1, .Name y p2] c p3)) pos) (retV2 i j) := ⟨psW (ps_ret (pe_tup (pa_cons pi (pa_cons pj pa_nil h2) h1))) fun D σ H ⟨B, ρ, x, q⟩ => by
  unfold retV2 at q
  split at q
  · rename_i d e hd he
    obtain ⟨S, F, b, y⟩ := x
    obtain ⟨v, a1, a2, _⟩ := y.val i d hd
    obtain ⟨w, b1, b2, _⟩ := y.val j e he
    refine ⟨v, a1, w, b1, le_line (n := 2) rfl (by decide), fun p hp => ?_⟩
    have f : Fus X.K (upd H p (.tup [v, w])) [v, w] [d, e] (F i ++ (F j ++ [])) := .cons ((a2 hi).same (new_same hp)) (.cons ((b2 hj).same (new_same hp)) .nil (fun _ _ h => nomatch h)) (fun a m h => by
      rw [List.append_nil] at h
      exact y.dis i hi j hj hij a m h)
    refine q (.ref p) _ (F i ++ (F j ++ [])) ((b.trans y.sub).trans (new_same hp)) (.tup upd_same f) fun a m => ?_
    rw [List.append_nil] at m
    rcases List.mem_append.mp m with m | m
    · exact b.free (y.out i hi a m).1
    · exact b.free (y.out j hj a m).1
  · exact q.elim⟩
end
end Vs

namespace Vs
open PySem PySem.Spec PyProof.Rows L2

/-! ### x.bit_length(), x = y for lists -/
def bitsD : D → R D
  | .int i => .ok (.int (Builtin.Int.intBits i : Nat))
  | _ => .st
def bitsE (f : Env → R D) (ρ : Env) : R D := (f ρ).bind bitsD
def aliasS (i j : Nat) (ρ : Env) : Sr := match ρ[j]? with
  | some (some d) => .nx (ρ.set i (some d))
  | _ => .st
section
variable {X : Cx} {W : WX} {own own' ol : List Nat} {pos : Pos} {a : Expr} {f : Env → R D}
theorem vg_bits {apos : Pos} (ha : VE X W a f) (hbase : attributeBase a "bit_length" X.env (eval a X.env) = eval a X.env := by rfl) (hline : (apos.endLine == pos.line) = true := by rfl) :
    VG X W (.Call (.Attribute a "bit_length" apos) [] [] pos) (bitsE f) := ⟨peW (pe_bits ha.pe hbase hline) fun σ H Q ⟨ρ, re, o⟩ => ⟨ρ, re, (Out.bind o).mono fun d _ q v H1 s1 r1 => by
  unfold bitsD at q
  split at q
  · cases r1
    exact ⟨_, rfl, q _ H1 [] s1 (.int _) (fun _ h => nomatch h)⟩
  · exact q.elim⟩⟩
/-- x = y: neither owns from here on -/
theorem vs_alias (i j : Nat) {x y : Str} {p1 p2 : Pos} (hN : X.N.Nodup) (hi : X.N[i]? = some x) (hx : Loc X.env.scope x) (pj : PE X (.Name y p2) (tVar j)) (hni : i ∉ own' := by decide) (hnj : j ∉ own' := by decide) (w : ∀ k ∈ own', k ∈ own := by decide)
    (hs : swapsWith (.Name y p2) (some (.Name x p1)) pos.line X.env = pure false := by rfl) (hf : X.fn x = true ∨ X.env.scope.names.lookup x = some .local := by first | exact .inl rfl | exact .inr rfl | assumption) :
    VS X W own own' ol (.Assign [.Name x p1] (.Name y p2) pos) (aliasS i j) := ⟨psW (ps_set hN hi hx pj hs hf) fun D σ H ⟨B, ρ, x, q⟩ => by
  unfold aliasS at q
  split at q
  · rename_i d hd
    obtain ⟨S, F, b, y⟩ := x.weak w
    obtain ⟨v, a1, _, a2⟩ := y.val j d hd
    exact ⟨v, a1, q _ _ ⟨S, F, b, y.lay hni (a2 hnj)⟩⟩
  · exact q.elim⟩
end
end Vs

namespace Vs
open PySem PySem.Spec PyProof.Rows L2

/-! ### displays as sources -/
section
variable {K : PySem.W.Frag} {H S : Hp}
theorem ext_sup {A B : List Addr} (h : ∀ a ∈ A, a ∈ B) : Same (ext S H A) (ext S H B) := fun b o e => by
  unfold ext at e ⊢
  cases q : S b with
  | some u => rw [q] at e; exact e
  | none =>
    rw [q] at e
    simp only at e ⊢
    cases q2 : H b with
    | none => rw [q2] at e; cases e
    | some u =>
      rw [q2] at e
      simp only at e ⊢
      by_cases c : Stt u ∨ b ∈ A
      · rw [if_pos c] at e
        rw [if_pos (c.imp id (h b))]
        exact e
      · rw [if_neg c] at e; cases e
variable {X : Cx} {W : WX} {own : List Nat} {es : List Expr} {fs : Env → R (List D)} {pos : Pos}
theorem vp_lst {n : Nat} (ha : VPs X W own es fs) (hl : LenA fs n) (hn : n ≤ 1000 := by decide) : VP X W own (.List es pos) (lstE fs) := ⟨peW (pe_lst ha.pa) fun σ H Q ⟨ρ, S, F, st, o⟩ => ⟨ρ, S, F, st, (Out.bind o).mono fun ds hd q vs H1 A s1 n1 r1 =>
  ⟨le_line (r1.length.trans (hl ρ ds hd)) hn, fun p hp => q _ _ (p :: A) (s1.trans (new_same hp)) (fun a m => (List.mem_cons.mp m).elim (fun z => by rw [z]; exact s1.free hp) fun z => n1 a z)
    (.lst (SqL.of (ext_at ((st.sub.trans s1).trans (new_same hp)) upd_same List.mem_cons_self)) (r1.mono ((ext_mono (A := A) (new_same hp) (st.sub.trans s1)).trans (ext_sup fun a m => List.mem_cons_of_mem _ m))))⟩⟩⟩
end
end Vs

namespace Vs
open PySem PySem.Spec PyProof.Rows L2

/-! ### places within what a slot owns -/
def getP : List Nat → D → Option D
  | [], d => some d
  | k :: p, .lst ds => match ds[k]? with | some e => getP p e | none => none
  | k :: p, .obj _ _ ds => match ds[k]? with | some e => getP p e | none => none
  | _ :: _, _ => none
def setP : List Nat → D → D → Option D
  | [], e, _ => some e
  | k :: p, e, .lst ds => match ds[k]? with | some x => (setP p e x).map fun y => .lst (ds.set k y) | none => none
  | k :: p, e, .obj c ks ds => match ds[k]? with | some x => (setP p e x).map fun y => .obj c ks (ds.set k y) | none => none
  | _ :: _, _, _ => none
def navH (H : Hp) : List Nat → V → V → Prop
  | [], v, w => v = w
  | k :: p, v, w => ∃ a x, v = .ref a ∧ ((∃ vs, H a = some (.lst vs) ∧ vs[k]? = some x) ∨ (∃ C dx fs, H a = some (.ins C dx fs) ∧ (fs.map (·.2))[k]? = some x)) ∧ navH H p x w
theorem navH_mono {H H' : Hp} (s : Same H H') : ∀ {p : List Nat} {v w : V}, navH H p v w → navH H' p v w
  | [], _, _, h => h
  | k :: p, v, w, ⟨a, x, e, h, n⟩ => ⟨a, x, e, h.imp (fun ⟨vs, h1, h2⟩ => ⟨vs, s _ _ h1, h2⟩) fun ⟨C, dx, fs, h1, h2⟩ => ⟨C, dx, fs, s _ _ h1, h2⟩, navH_mono s n⟩
theorem navH_fun {H : Hp} : ∀ {p : List Nat} {v w w' : V}, navH H p v w → navH H p v w' → w = w'
  | [], _, _, _, h, h' => h.symm.trans h'
  | k :: p, v, w, w', ⟨a, x, e, h, n⟩, ⟨a', x', e', h', n'⟩ => by
    rw [e] at e'
    cases e'
    have ex : x = x' := by
      rcases h with ⟨vs, h1, h2⟩ | ⟨C, dx, fs, h1, h2⟩ <;> rcases h' with ⟨vs', h1', h2'⟩ | ⟨C', dx', fs', h1', h2'⟩ <;> rw [h1] at h1' <;> cases h1' <;> rw [h2] at h2' <;> exact Option.some.inj h2'
    subst ex
    exact navH_fun n n'
theorem navH_app {H : Hp} : ∀ {p q : List Nat} {v w u : V}, navH H p v w → navH H q w u → navH H (p ++ q) v u
  | [], _, _, _, _, h, n => by cases h; exact n
  | k :: p, q, v, w, u, ⟨a, x, e, h, n⟩, m => ⟨a, x, e, h, navH_app n m⟩
theorem getP_app : ∀ {p q : List Nat} {d e : D}, getP p d = some e → getP (p ++ q) d = getP q e
  | [], _, d, e, h => by cases h; rfl
  | k :: p, q, d, e, h => by
    cases d with
    | lst ds =>
      simp only [getP, List.cons_append] at h ⊢
      cases hk : ds[k]? with
      | none => rw [hk] at h; cases h
      | some x => rw [hk] at h; exact getP_app h
    | obj c ks ds =>
      simp only [getP, List.cons_append] at h ⊢
      cases hk : ds[k]? with
      | none => rw [hk] at h; cases h
      | some x => rw [hk] at h; exact getP_app h
    | _ => simp only [getP] at h; cases h
section
variable {K : PySem.W.Frag} {H : Hp}
theorem Fus.focusAt : ∀ {vs : List V} {ds : List D} {A : List Addr} {k : Nat} {x : D}, Fus K H vs ds A → ds[k]? = some x → ∃ v Ak, vs[k]? = some v ∧ Fu K H v x Ak ∧ (∀ a ∈ Ak, a ∈ A) ∧
    ∀ (H' : Hp) (x' : D) (Ak' : List Addr), Fu K H' v x' Ak' → (∀ a ∈ A, a ∉ Ak → H' a = H a) → (∀ b xs, TpT K H b xs → TpT K H' b xs) → (∀ a ∈ Ak', a ∈ A → a ∈ Ak) →
      ∃ A', Fus K H' vs (ds.set k x') A' ∧ ∀ a ∈ A', (a ∈ A ∧ a ∉ Ak) ∨ a ∈ Ak'
  | [], _, _, k, x, .nil, h => by simp at h
  | v :: vs, _ :: _, _, k, x, .cons (A := A1) (B := A2) f r m, h => by
    cases k with
    | zero =>
      simp at h
      subst h
      refine ⟨v, A1, rfl, f, fun a ha => List.mem_append_left _ ha, fun H' x' Ak' g k t dj => ?_⟩
      refine ⟨Ak' ++ A2, .cons g (r.at (fun a ha => k a (List.mem_append_right _ ha) fun z => m a z ha) t) (fun a ha hb => m a (dj a ha (List.mem_append_right _ hb)) hb), fun a ha => ?_⟩
      rcases List.mem_append.mp ha with z | z
      · exact .inr z
      · exact .inl ⟨List.mem_append_right _ z, fun y => m a y z⟩
    | succ k =>
      obtain ⟨w, Ak, h1, h2, h3, h4⟩ := Fus.focusAt r (show _ = some x by simpa using h)
      refine ⟨w, Ak, by simpa using h1, h2, fun a ha => List.mem_append_right _ (h3 a ha), fun H' x' Ak' g k t dj => ?_⟩
      obtain ⟨A', q1, q2⟩ := h4 H' x' Ak' g (fun a ha => k a (List.mem_append_right _ ha)) t (fun a ha hb => dj a ha (List.mem_append_right _ hb))
      refine ⟨A1 ++ A', .cons (f.at (fun a ha => k a (List.mem_append_left _ ha) fun z => m a ha (h3 a z)) t) q1 (fun a ha hb => ?_), fun a ha => ?_⟩
      · rcases q2 a hb with z | z
        · exact m a ha z.1
        · exact m a ha (h3 a (dj a z (List.mem_append_left _ ha)))
      · rcases List.mem_append.mp ha with z | z
        · exact .inl ⟨List.mem_append_left _ z, fun y => m a z (h3 a y)⟩
        · exact (q2 a z).imp (fun y => ⟨List.mem_append_right _ y.1, y.2⟩) id
theorem Fu.focus : ∀ (p : List Nat) {v : V} {d e : D} {A : List Addr}, Fu K H v d A → getP p d = some e → ∃ w B, navH H p v w ∧ Fu K H w e B ∧ (∀ b ∈ B, b ∈ A) ∧
    ∀ (H' : Hp) (e' : D) (B' : List Addr), Fu K H' w e' B' → (∀ a ∈ A, a ∉ B → H' a = H a) → (∀ b xs, TpT K H b xs → TpT K H' b xs) → (∀ a ∈ B', a ∈ A → a ∈ B) →
      ∃ d' A', setP p e' d = some d' ∧ Fu K H' v d' A' ∧ ∀ a ∈ A', (a ∈ A ∧ a ∉ B) ∨ a ∈ B'
  | [], v, d, e, A, f, h => by
    cases h
    exact ⟨v, A, rfl, f, fun _ h => h, fun H' e' B' g _ _ _ => ⟨e', B', rfl, g, fun a ha => .inr ha⟩⟩
  | k :: p, v, d, e, A, f, h => by
    cases f with
    | @lst a vs ds A1 hp r n =>
      simp only [getP] at h
      cases hk : ds[k]? with
      | none => rw [hk] at h; cases h
      | some x =>
        rw [hk] at h
        obtain ⟨u, Ak, h1, h2, h3, h4⟩ := r.focusAt hk
        obtain ⟨w, B, g1, g2, g3, g4⟩ := Fu.focus p h2 h
        refine ⟨w, B, ⟨a, u, rfl, .inl ⟨vs, hp, h1⟩, g1⟩, g2, fun b hb => List.mem_cons_of_mem _ (h3 b (g3 b hb)), fun H' e' B' q keep t dj => ?_⟩
        obtain ⟨x', Ax, y1, y2, y3⟩ := g4 H' e' B' q (fun b hb nb => keep b (List.mem_cons_of_mem _ (h3 b hb)) nb) t (fun b hb hc => dj b hb (List.mem_cons_of_mem _ (h3 b hc)))
        have na : a ∉ Ax := fun z => (y3 a z).elim (fun y => n (h3 a y.1)) fun y => n (h3 a (g3 a (dj a y List.mem_cons_self)))
        obtain ⟨A', z1, z2⟩ := h4 H' x' Ax y2 (fun b hb nb => keep b (List.mem_cons_of_mem _ hb) fun y => nb (g3 b y)) t (fun b hb hc => (y3 b hb).elim (fun y => y.1) fun y => g3 b (dj b y (List.mem_cons_of_mem _ hc)))
        have na' : a ∉ A' := fun z => (z2 a z).elim (fun y => n y.1) na
        refine ⟨.lst (ds.set k x'), a :: A', by simp only [setP]; rw [hk]; simp only [y1, Option.map_some], .lst ((keep a List.mem_cons_self fun y => n (h3 a (g3 a y))).trans hp) z1 na', fun b hb => ?_⟩
        rcases List.mem_cons.mp hb with z | z
        · subst z
          exact .inl ⟨List.mem_cons_self, fun y => n (h3 _ (g3 _ y))⟩
        · rcases z2 b z with y | y
          · exact .inl ⟨List.mem_cons_of_mem _ y.1, fun y' => y.2 (g3 b y')⟩
          · exact (y3 b y).imp (fun y => ⟨List.mem_cons_of_mem _ (h3 b y.1), y.2⟩) id
    | @obj a C dx fs c ks ds A1 hp hx nk hq r n n2 n3 =>
      simp only [getP] at h
      cases hk : ds[k]? with
      | none => rw [hk] at h; cases h
      | some x =>
        rw [hk] at h
        obtain ⟨u, Ak, h1, h2, h3, h4⟩ := r.focusAt hk
        obtain ⟨w, B, g1, g2, g3, g4⟩ := Fu.focus p h2 h
        have up : ∀ {b}, b ∈ A1 → b ∈ a :: dx :: A1 := fun h => List.mem_cons_of_mem _ (List.mem_cons_of_mem _ h)
        refine ⟨w, B, ⟨a, u, rfl, .inr ⟨C, dx, fs, hp, h1⟩, g1⟩, g2, fun b hb => up (h3 b (g3 b hb)), fun H' e' B' q keep t dj => ?_⟩
        obtain ⟨x', Ax, y1, y2, y3⟩ := g4 H' e' B' q (fun b hb nb => keep b (up (h3 b hb)) nb) t (fun b hb hc => dj b hb (up (h3 b hc)))
        have na : a ∉ Ax := fun z => (y3 a z).elim (fun y => n (h3 a y.1)) fun y => n (h3 a (g3 a (dj a y List.mem_cons_self)))
        have nx : dx ∉ Ax := fun z => (y3 dx z).elim (fun y => n2 (h3 dx y.1)) fun y => n2 (h3 dx (g3 dx (dj dx y (List.mem_cons_of_mem _ List.mem_cons_self))))
        obtain ⟨A', z1, z2⟩ := h4 H' x' Ax y2 (fun b hb nb => keep b (up hb) fun y => nb (g3 b y)) t (fun b hb hc => (y3 b hb).elim (fun y => y.1) fun y => g3 b (dj b y (up hc)))
        have na' : a ∉ A' := fun z => (z2 a z).elim (fun y => n y.1) na
        have nx' : dx ∉ A' := fun z => (z2 dx z).elim (fun y => n2 y.1) nx
        refine ⟨.obj c ks (ds.set k x'), a :: dx :: A', by simp only [setP]; rw [hk]; simp only [y1, Option.map_some],
          .obj ((keep a List.mem_cons_self fun y => n (h3 a (g3 a y))).trans hp) ((keep dx (List.mem_cons_of_mem _ List.mem_cons_self) fun y => n2 (h3 dx (g3 dx y))).trans hx) nk hq z1 na' nx' n3, fun b hb => ?_⟩
        rcases List.mem_cons.mp hb with z | z
        · subst z
          exact .inl ⟨List.mem_cons_self, fun y => n (h3 _ (g3 _ y))⟩
        · rcases List.mem_cons.mp z with z | z
          · subst z
            exact .inl ⟨List.mem_cons_of_mem _ List.mem_cons_self, fun y => n2 (h3 _ (g3 _ y))⟩
          · rcases z2 b z with y | y
            · exact .inl ⟨up y.1, fun y' => y.2 (g3 b y')⟩
            · exact (y3 b y).imp (fun y => ⟨up (h3 b y.1), y.2⟩) id
    | _ => simp only [getP] at h; cases h
end
section
variable {K : PySem.W.Frag} {S H : Hp} {own : List Nat} {F : Nat → List Addr} {ρ : Env} {σ : L2.St}
/-- what stands at a place of slot i, and how it is changed there -/
theorem Stx.place (st : Stx own K S F ρ σ H) {i : Nat} {p : List Nat} {d e : D} (hi : i ∈ own) (hd : ρ[i]? = some (some d)) (hg : getP p d = some e) :
    ∃ v w B, σ[i]? = some (some v) ∧ navH H p v w ∧ Fu K H w e B ∧ (∀ b ∈ B, S b = none ∧ b ∈ F i ∧ ∀ j ∈ own, j ≠ i → b ∉ F j) ∧
      ∀ (q : Addr) (o' : HO) (e' : D) (B' : List Addr), q ∈ B → ¬ Stt o' → Fu K (upd H q o') w e' B' → (∀ a ∈ B', a ∈ B ∨ (S a = none ∧ ∀ j ∈ own, a ∉ F j)) →
        ∃ d' F', setP p e' d = some d' ∧ Stx own K S F' (ρ.set i (some d')) σ (upd H q o') := by
  obtain ⟨v, h1, h2, _⟩ := st.val i d hd
  obtain ⟨w, B, g1, g2, g3, g4⟩ := (h2 hi).focus p hg
  refine ⟨v, w, B, h1, g1, g2, fun b hb => ⟨(st.out i hi b (g3 b hb)).1, g3 b hb, fun j hj ne z => st.dis j hj i hi ne b z (g3 b hb)⟩, fun q o' e' B' hq ns f hB => ?_⟩
  have hqo : ∃ o, H q = some o ∧ ¬ Stt o := g2.soft q hq
  obtain ⟨d', A', s1, s2, s3⟩ := g4 (upd H q o') e' B' f (fun a _ nb => upd_ne fun z => nb (z ▸ hq)) (fun b xs hs => upd_seqT hqo hs) (fun a ha hA => (hB a ha).elim id fun z => absurd hA (z.2 i hi))
  refine ⟨d', _, s1, st.mut hi h1 hqo (st.out i hi q (g3 q hq)).1 (fun j hj ne z => st.dis j hj i hi ne q z (g3 q hq)) ns s2 fun a ha => ?_⟩
  have old : ∀ a, a ∈ F i → S a = none ∧ ∀ j ∈ own, j ≠ i → a ∉ F j := fun a ha => ⟨(st.out i hi a ha).1, fun j hj ne z => st.dis j hj i hi ne a z ha⟩
  rcases s3 a ha with z | z
  · exact old a z.1
  · rcases hB a z with y | y
    · exact old a (g3 a y)
    · exact ⟨y.1, fun j hj _ => y.2 j hj⟩
end
/-- a place: the slot, and the way to it -/
def tL (K : PySem.W.Frag) (mg : Str → Option Value) (W : WX) (own : List Nat) (i : Nat) (f : Env → R (List Nat)) : TE := fun σ H Q => ∃ ρ S F, Stx own K S F ρ σ H ∧ i ∈ own ∧ Out mg W σ H (f ρ) fun p =>
  (∃ d e, ρ[i]? = some (some d) ∧ getP p d = some e) ∧ ∀ v w H', σ[i]? = some (some v) → Same H H' → navH H' p v w → Q w H'
structure VL (X : Cx) (W : WX) (own : List Nat) (i : Nat) (e : Expr) (f : Env → R (List Nat)) : Prop where
  pe : PE X e (tL X.K X.mg W own i f)
def atP (i : Nat) (p : List Nat) (ρ : Env) : Option D := match ρ[i]? with
  | some (some d) => getP p d
  | _ => none
def noP (_ : Env) : R (List Nat) := .ok []
def ixP (i : Nat) (f : Env → R (List Nat)) (g : Env → R D) (ρ : Env) : R (List Nat) := (f ρ).bind fun p => match atP i p ρ with
  | some (.lst ds) => (g ρ).bind fun k => (match k with
    | .int n => (match ixN ds.length n with
      | some j => .ok (p ++ [j])
      | none => .st)
    | _ => .st)
  | _ => .st
theorem atP_some {i : Nat} {p : List Nat} {ρ : Env} {e : D} (h : atP i p ρ = some e) : ∃ d, ρ[i]? = some (some d) ∧ getP p d = some e := by
  unfold atP at h
  split at h
  · rename_i d hd
    exact ⟨d, hd, h⟩
  · cases h
theorem ixN_at {n : Nat} {k : Int} {j : Nat} (h : ixN n k = some j) : j < n := by
  unfold ixN at h
  repeat' split at h
  all_goals first
    | (cases h; omega)
    | cases h
section
variable {X : Cx} {W : WX} {own own' ol : List Nat} {e a b : Expr} {x : Str} {i : Nat} {f g : Env → R D} {fp : Env → R (List Nat)} {p pos : Pos} {st : Stmt}
theorem vl_var (i : Nat) (q : PE X (.Name x pos) (tVar i)) (hi : i ∈ own := by decide) : VL X W own i (.Name x pos) noP := ⟨peW q fun σ H Q ⟨ρ, S, F, st, hi, o⟩ => by
  obtain ⟨⟨d, e, h1, h2⟩, o⟩ := o
  obtain ⟨v, h3, _⟩ := st.val i d h1
  exact ⟨v, h3, o v v H h3 (Same.refl H) rfl⟩⟩
theorem vl_ix (ha : VL X W own i a fp) (hb : VE X W b g) (hs : PlainIx b) : VL X W own i (.Subscript a b pos) (ixP i fp g) :=
  ⟨peW (pe_ix ix_seq ha.pe hb.pe hs) fun σ H Q ⟨ρ, S, F, st, hi, o⟩ => ⟨ρ, S, F, st, hi, (Out.bind (show Out X.mg W σ H ((fp ρ).bind _) _ from o)).mono fun p _ q => by
    cases ha : atP i p ρ with
    | none => rw [ha] at q; exact q.elim
    | some d0 =>
      rw [ha] at q
      cases d0 with
      | lst ds =>
        obtain ⟨d, hd, hg⟩ := atP_some ha
        refine ⟨⟨d, _, hd, hg⟩, fun v w H1 hv s1 nv => ⟨ρ, st.env.mono s1, ((Out.bind (show Out X.mg W σ H ((g ρ).bind _) _ from q)).up s1).mono fun k _ q u H2 s2 ru => ?_⟩⟩
        cases k with
        | int n =>
          have q : Out X.mg W σ H (match ixN ds.length n with | some j => R.ok (p ++ [j]) | none => R.st) _ := q
          split at q
          · rename_i jj ej
            cases ru
            obtain ⟨v', w', B, e1, e2, e3, _⟩ := st.place hi hd hg
            rw [hv] at e1
            cases e1
            have ew := navH_fun (navH_mono s1 e2) nv
            subst ew
            obtain ⟨pa, vs, A', rfl, _, hp, r, _⟩ := e3.list
            have hj := ixN_at ej
            rw [← r.length] at hj
            obtain ⟨z, hz⟩ : ∃ z, vs[jj]? = some z := ⟨vs[jj], List.getElem?_eq_getElem hj⟩
            have hk := getP_app (q := [jj]) hg
            obtain ⟨y, hy, _⟩ := r.rd.getV hz
            have q : Out X.mg W σ H (R.ok (p ++ [jj])) _ := q
            obtain ⟨_, q⟩ := q
            refine .inl ⟨pa, vs, n, z, rfl, rfl, SqL.of ((s1.trans s2) _ _ hp), ?_, q v z H2 hv (s1.trans s2) (navH_app (navH_mono s2 nv) ⟨pa, z, rfl, .inl ⟨vs, (s1.trans s2) _ _ hp, hz⟩, rfl⟩)⟩
            unfold atI
            rw [r.length, ej]
            exact hz
          · exact q.elim
        | _ => exact q.elim
      | _ => exact q.elim⟩⟩
end

/-! ### changes at a place -/
def putP (i : Nat) (p : List Nat) (e : D) (ρ : Env) : Sr := match ρ[i]? with
  | some (some d) => (match setP p e d with
    | some d' => .nx (ρ.set i (some d'))
    | none => .st)
  | _ => .st
def appP (i : Nat) (fp : Env → R (List Nat)) (f : Env → R D) (ρ : Env) : Sr := bindS (fp ρ) ρ fun p => match atP i p ρ with
  | some (.lst ds) => bindS (f ρ) ρ fun d => if ds.length < sizeLine then putP i p (.lst (ds ++ [d])) ρ else .st
  | _ => .st
def setPS (i : Nat) (fp : Env → R (List Nat)) (fk fe : Env → R D) (ρ : Env) : Sr := bindS (fe ρ) ρ fun d => bindS (fp ρ) ρ fun p => match atP i p ρ with
  | some (.lst ds) => bindS (fk ρ) ρ fun k => (match k with
    | .int n => (match ixN ds.length n with
      | some j => putP i p (.lst (ds.set j d)) ρ
      | none => .st)
    | _ => .st)
  | _ => .st
def augPS (i : Nat) (fp : Env → R (List Nat)) (fk fe : Env → R D) (ρ : Env) : Sr := bindS (fp ρ) ρ fun p => match atP i p ρ with
  | some (.lst ds) => bindS (fk ρ) ρ fun k => (match k with
    | .int n => if 0 ≤ n then (match ixN ds.length n with
      | some j => (match ds[j]? with
        | some (.int x) => bindS (fe ρ) ρ fun y => (match y with
          | .int y => putP i p (.lst (ds.set j (.int (x + y)))) ρ
          | _ => .st)
        | _ => .st)
      | none => .st) else .st
    | _ => .st)
  | _ => .st
section
variable {X : Cx} {W : WX} {own own' ol : List Nat} {i : Nat} {f fk fe : Env → R D} {fp : Env → R (List Nat)} {st : Stmt}
/-- a list at a place takes other items -/
theorem put_core {S H : Hp} {F : Nat → List Addr} {ρ : Env} {σ : L2.St} {p : List Nat} {ds : List D} (y : Stx own X.K S F ρ σ H) (hi : i ∈ own) (ha : atP i p ρ = some (.lst ds)) :
    (∃ d e, ρ[i]? = some (some d) ∧ getP p d = some e) ∧ ∃ v l vs, σ[i]? = some (some v) ∧ navH H p v (.ref l) ∧ H l = some (.lst vs) ∧ Rds X.K H vs ds ∧
      ∀ (S1 H1 : Hp) (F1 : Nat → List Addr) (ws : List V) (ds' : List D), Stx own X.K S1 F1 ρ σ H1 → Same H H1 →
        (∀ A, Fus X.K H1 vs ds A → (∀ a ∈ A, S1 a = none ∧ a ∈ F1 i) → l ∉ A → l ∈ F1 i → ∃ A', Fus X.K H1 ws ds' A' ∧ ∀ a ∈ A', a ∈ A ∨ (S1 a = none ∧ ∀ j ∈ own, a ∉ F1 j)) →
        ∃ d' F', putP i p (.lst ds') ρ = .nx (ρ.set i (some d')) ∧ Stx own X.K S1 F' (ρ.set i (some d')) σ (upd H1 l (.lst ws)) := by
  obtain ⟨d, hd, hg⟩ := atP_some ha
  obtain ⟨v, w, A, e1, e2, e3, _⟩ := y.place hi hd hg
  obtain ⟨l, vs, A', rfl, rfl, hl, r, n⟩ := e3.list
  refine ⟨⟨d, _, hd, hg⟩, v, l, vs, e1, e2, hl, r.rd, fun S1 H1 F1 ws ds' y1 s1 k => ?_⟩
  obtain ⟨v', w', A2, g1, g2, g3, g4, g5⟩ := y1.place hi hd hg
  rw [e1] at g1
  cases g1
  have ew := navH_fun (navH_mono s1 e2) g2
  subst ew
  obtain ⟨l', vs', A3, e5, rfl, hl', r', n'⟩ := g3.list
  cases e5
  have ev : vs' = vs := by
    have := s1 _ _ hl
    rw [hl'] at this
    cases this
    rfl
  subst ev
  obtain ⟨A4, r4, k4⟩ := k A3 r' (fun a ha => ⟨(g4 a (List.mem_cons_of_mem _ ha)).1, (g4 a (List.mem_cons_of_mem _ ha)).2.1⟩) n' (g4 l List.mem_cons_self).2.1
  have n4 : l ∉ A4 := fun z => (k4 l z).elim n' fun z => z.2 i hi (g4 l List.mem_cons_self).2.1
  have hlo : ∃ o, H1 l = some o ∧ ¬ Stt o := ⟨_, hl', fun z => (show False from z)⟩
  obtain ⟨d', F', s2, y2⟩ := g5 l (.lst ws) (.lst ds') (l :: A4) List.mem_cons_self (fun z => (show False from z)) (fu_relist hlo r4 n4) (fun a ha => (List.mem_cons.mp ha).elim (fun z => .inl (by rw [z]; exact List.mem_cons_self)) fun z => (k4 a z).imp (fun z => List.mem_cons_of_mem _ z) id)
  refine ⟨d', F', ?_, y2⟩
  unfold putP
  rw [hd]
  simp only [s2]
/-- the same, and what holds behind it -/
theorem put_list {S H : Hp} {F : Nat → List Addr} {ρ : Env} {σ : L2.St} {B : Hp} {p : List Nat} {ds : List D} (y : Stx own X.K S F ρ σ H) (hi : i ∈ own) (ha : atP i p ρ = some (.lst ds)) :
    (∃ d e, ρ[i]? = some (some d) ∧ getP p d = some e) ∧ ∃ v l vs, σ[i]? = some (some v) ∧ navH H p v (.ref l) ∧ H l = some (.lst vs) ∧ Rds X.K H vs ds ∧
      ∀ (S1 H1 : Hp) (F1 : Nat → List Addr) (ws : List V) (ds' : List D) (En : Ends), Stx own X.K S1 F1 ρ σ H1 → Same H H1 → Same B S1 →
        (∀ A, Fus X.K H1 vs ds A → (∀ a ∈ A, S1 a = none ∧ a ∈ F1 i) → l ∉ A → l ∈ F1 i → ∃ A', Fus X.K H1 ws ds' A' ∧ ∀ a ∈ A', a ∈ A ∨ (S1 a = none ∧ ∀ j ∈ own, a ∉ F1 j)) →
        SEnd X.K X.mg W own ol B En (putP i p (.lst ds') ρ) → En.nx σ (upd H1 l (.lst ws)) := by
  obtain ⟨g0, v, l, vs, e1, e2, e3, e4, e5⟩ := put_core y hi ha
  refine ⟨g0, v, l, vs, e1, e2, e3, e4, fun S1 H1 F1 ws ds' En y1 s1 b1 k q => ?_⟩
  obtain ⟨d', F', h1, h2⟩ := e5 S1 H1 F1 ws ds' y1 s1 k
  rw [h1] at q
  exact q _ _ ⟨_, _, b1, h2⟩
/-- place.append(e) -/
theorem vs_appendP (p : PS X st (tDrop (tBM X.K "list" rAppend (tL X.K X.mg W own i fp) (tCons (tG X.K X.mg W f) tNil)))) (hi : i ∈ own := by decide) : VS X W own own ol st (appP i fp f) := ⟨psW p fun En σ H ⟨B, ρ, x, q⟩ => by
  unfold appP at q
  have q := SEnd.out x q
  obtain ⟨S, F, b, y⟩ := x
  refine ⟨ρ, S, F, y, hi, q.mono fun pt _ q => ?_⟩
  cases ha : atP i pt ρ with
  | none => rw [ha] at q; exact q.elim
  | some d0 =>
    rw [ha] at q
    cases d0 with
    | lst ds =>
      obtain ⟨g0, v, l, vs, e1, e2, e3, e4, e5⟩ := put_list (W := W) (ol := ol) (B := B) y hi ha
      refine ⟨g0, fun v' w H1 hv s1 nv => ?_⟩
      rw [e1] at hv
      cases hv
      have ew := navH_fun (navH_mono s1 e2) nv
      subst ew
      have y1 := y.grow s1 (A := []) (fun _ z => nomatch z)
      have q := SEnd.out (own' := own) (σ := σ) (H := H1) ⟨_, _, b.trans (ext_s []), y1⟩ (show SEnd X.K X.mg W own ol B En (bindS (f ρ) ρ _) from q)
      refine ⟨.inl ⟨rfl, _, .inl (.inl (s1 _ _ e3))⟩, ρ, y1.env, q.mono fun d _ q u H2 C s2 f2 n2 => ?_⟩
      by_cases hz : ds.length < sizeLine
      rotate_left
      · rw [if_neg hz] at q; exact q.elim
      rw [if_pos hz] at q
      have y2 := y1.grow s2 (A := []) (fun _ z => nomatch z)
      have fr := y1.fresh s2 f2 n2
      refine ⟨l, vs, u, rfl, rfl, (s1.trans s2) _ _ e3, by rw [e4.length]; exact hz, ?_⟩
      refine e5 _ H2 _ _ _ En y2 (s1.trans s2) ((b.trans (ext_s [])).trans (ext_s [])) (fun A r k n m => ?_) q
      refine ⟨A ++ (C ++ []), r.app (.cons f2 .nil fun _ _ z => nomatch z) (fun a ha hb => ?_), fun a ha => ?_⟩
      · rw [List.append_nil] at hb
        exact (fr a hb).2 i hi (k a ha).2
      · rw [List.append_nil] at ha
        exact (List.mem_append.mp ha).imp id fun z => fr a z
    | _ => exact q.elim⟩
/-- place[k] = e -/
theorem vs_setP (p : PS X st (tAsg (tG X.K X.mg W fe) (gSub (tL X.K X.mg W own i fp) (tF X.K X.mg W fk) rSetL))) (hi : i ∈ own := by decide) : VS X W own own ol st (setPS i fp fk fe) := ⟨psW p fun En σ H ⟨B, ρ, x, q⟩ => by
  unfold setPS at q
  have q := SEnd.out x q
  obtain ⟨S, F, b, y⟩ := x
  refine ⟨ρ, y.env, q.mono fun d _ q u H1 C s1 f1 n1 => ?_⟩
  have y1 := y.grow s1 (A := []) (fun _ z => nomatch z)
  have fr := y.fresh s1 f1 n1
  have b1 := b.trans (ext_s (S := S) (H := H1) [])
  have q := SEnd.out (own' := own) (σ := σ) (H := H1) ⟨_, _, b1, y1⟩ q
  refine ⟨ρ, _, _, y1, hi, q.mono fun pt _ q => ?_⟩
  cases ha : atP i pt ρ with
  | none => rw [ha] at q; exact q.elim
  | some d0 =>
    rw [ha] at q
    cases d0 with
    | lst ds =>
      obtain ⟨g0, v, l, vs, e1, e2, e3, e4, e5⟩ := put_list (W := W) (ol := ol) (B := B) y1 hi ha
      refine ⟨g0, fun v' w H2 hv s2 nv => ?_⟩
      rw [e1] at hv
      cases hv
      have ew := navH_fun (navH_mono s2 e2) nv
      subst ew
      have y2 := y1.grow s2 (A := []) (fun _ z => nomatch z)
      have b2 := b1.trans (ext_s (S := _) (H := H2) [])
      have q := SEnd.out (own' := own) (σ := σ) (H := H2) ⟨_, _, b2, y2⟩ (show SEnd X.K X.mg W own ol B En (bindS (fk ρ) ρ _) from q)
      refine ⟨ρ, y2.env, q.mono fun k _ q kv H3 s3 rk => ?_⟩
      cases k with
      | int n =>
        have q : SEnd X.K X.mg W own ol B En (match ixN ds.length n with | some j => putP i pt (.lst (ds.set j d)) ρ | none => .st) := q
        cases ej : ixN ds.length n with
        | none => rw [ej] at q; exact q.elim
        | some j =>
          rw [ej] at q
          cases rk
          have y3 := y2.grow s3 (A := []) (fun _ z => nomatch z)
          have f3 := (f1.same s2).same s3
          refine ⟨l, vs, n, j, rfl, rfl, (s2.trans s3) _ _ e3, by rw [e4.length]; exact ej, ?_⟩
          have fr3 : ∀ a ∈ C, ext (ext (ext S H1 []) H2 []) H3 [] a = none ∧ ∀ j ∈ own, a ∉ F j := fun a ha => by
            obtain ⟨o, h1, h2⟩ := f3.soft a ha
            obtain ⟨o1, h3, h4⟩ := f1.soft a ha
            have h5 := (fr a ha).1
            refine ⟨ext_none (ext_none h5 (fun z => nomatch z) (fun o' e => ?_)) (fun z => nomatch z) (fun o' e => ?_), (fr a ha).2⟩
            · rw [s2 _ _ h3] at e; cases e; exact h4
            · rw [h1] at e; cases e; exact h2
          refine e5 _ H3 _ _ _ En y3 (s2.trans s3) (b2.trans (ext_s [])) (fun A r k n m => ?_) q
          obtain ⟨A', r', k'⟩ := Fus.set (vs := vs) (ds := ds) (A := A) f3 r (fun a ha z => (fr3 a ha).2 i hi (k a z).2) j
          exact ⟨A', r', fun a ha => (k' a ha).imp id fun z => fr3 a z⟩
      | _ => exact q.elim
    | _ => exact q.elim⟩
/-- o[i], by values -/
def rGetL (K : PySem.W.Frag) : V → V → Hp → VK → Prop := fun o i H Q => ∃ p xs k v, o = .ref p ∧ i = .int k ∧ SqL K H p xs ∧ 0 ≤ k ∧ atI xs k = some v ∧ Q v H
theorem get_list : PGet X (rGetL X.K) := by
  intro pins s σ H o i ov iv Q I ro ri h
  obtain ⟨p, xs, k, z, rfl, rfl, hq, h0, he, q⟩ := h
  cases ro
  obtain ⟨t, rfl⟩ := ri
  obtain ⟨its, r, pl, hz⟩ := I.list hq
  obtain ⟨j, h1, h2, h3, h4, h5⟩ := atI_get he
  obtain ⟨w, ew, rw'⟩ := r.get h2
  have hl := r.length
  have hn := line63
  have hj : k.toNat = j := by
    rw [seqIndex_of h0 h5] at h1
    exact Option.some.inj h1
  exact wpAny_getItem_list pl.isList h0 (by omega) (by rw [hj]; simpa using ew) ⟨z, H, I, rw', q⟩
end
end Vs

namespace PySem.AutoSeq1
theorem list_extendW (l : Addr) (items : Array Value) (n : Nat) (b : Addr) (items2 : Array Value) (n2 : Nat) (sl : Array (Option Value)) (hc0 : ¬(!items.isEmpty && Builtin.List.listTooLong (items.size + items2.size)) = true) (hc1 : items.size ≤ sizeLine) (hs2 : items.size + items2.size ≤ sizeLine + 1 := by seq_fits) :
    Meets (Builtin.«list.extend» ⟨[.ref l, .ref b], []⟩) (fun _ R s => s.heap.get? l = some { cls := .type "list", dict := none, data := .seq items n, slots := #[] } ∧ s.heap.get? b = some { cls := .type "list", dict := none, data := .seq items2 n2, slots := sl } ∧ R (.ok (.ret Value.none)) { s with heap := s.heap.update l (Obj.mapSeq fun x => x ++ items2), toks := s.toks }) :=
  .of_wp fun prog w A R s h => by
    obtain ⟨hp, g, d, tk, os⟩ := s; obtain ⟨hl, hb, h⟩ := h; have f1 := idx_int; have f2 := sub_tuple_tuple; have f3 := sub_list_list; have f4 := sub_tuple_list; have f5 := sub_list_tuple;
    have hz' : (items ++ items2).size ≤ sizeLine + 1 := by rw [Array.size_append]; exact hs2
    wp_walk using (wpAny_updateSeq hl rfl (hz := hc1) (_hz' := hz')), wpAny_loadPart' hl, wpAny_loadPart' hb; exact ⟨_, rfl, h⟩
end PySem.AutoSeq1
namespace Vs
open PySem PySem.Spec PyProof.Rows L2
section
variable {X : Cx}
def rExtendS (K : PySem.W.Frag) : V → List V → Hp → VK → Prop := fun x vs H Q => ∃ l b xs zs, x = .ref l ∧ vs = [.ref b] ∧ H l = some (.lst xs) ∧ SqL K H b zs ∧ xs.length + zs.length ≤ sizeLine ∧ Q .non (upd H l (.lst (xs ++ zs)))
theorem mt_extendS : MtM X "list.extend" (rExtendS X.K) := by
  intro pins s σ H x vs v us Q I rx rv h
  obtain ⟨l, b, xs, zs, rfl, rfl, hH, hB, hz, q⟩ := h
  cases rx
  obtain ⟨u, rfl, ru⟩ := rv.one
  cases ru
  obtain ⟨z, its, n, r, hl, e⟩ := I.lstM hH
  obtain ⟨its2, r2, ⟨o2, n2, ho2, hc2, hdc2, hd2⟩, z2⟩ := I.list hB
  have hl2 := r2.length
  obtain ⟨cls2, dd2, data2, sl2⟩ := o2
  simp only at hc2 hd2 hdc2
  subst hc2 hd2 hdc2
  have hsz : its.toArray.size + its2.toArray.size ≤ sizeLine := by rw [List.size_toArray, List.size_toArray]; omega
  have hlong : ¬ (!its.toArray.isEmpty && Builtin.List.listTooLong (its.toArray.size + its2.toArray.size)) = true := by
    rw [notLongL hsz, Bool.and_false]
    exact Bool.false_ne_true
  refine call_meets F.slot_list_extend ⟨_, e, rfl⟩ F.entry_list_extend (F.args_list_extend_2 _ _)
    (AutoSeq1.list_extendW l its.toArray n b its2.toArray n2 sl2 hlong (by rw [List.size_toArray]; omega) (by omega)) ⟨e, ho2, ?_⟩
  refine ⟨.non, _, I.lset (its' := its ++ its2) hH e (by simp) (r.append r2) ?_, rfl, q⟩
  rw [List.length_append]
  omega
end
theorem immDs_all : ∀ {xs : List D}, immDs xs = true ↔ ∀ x ∈ xs, immD x = true
  | [] => by rw [immDs]; simp
  | x :: xs => by rw [immDs, Bool.and_eq_true, immDs_all (xs := xs)]; simp
def extP (i : Nat) (fp : Env → R (List Nat)) (f : Env → R D) (ρ : Env) : Sr := bindS (fp ρ) ρ fun p => match atP i p ρ with
  | some (.lst ds) => bindS (f ρ) ρ fun d => (match d with
    | .lst es => if ds.length + es.length ≤ sizeLine ∧ immDs es = true then putP i p (.lst (ds ++ es)) ρ else .st
    | _ => .st)
  | _ => .st
/-- several names at once -/
def putAll : List Nat → List D → Env → Env
  | i :: is, d :: ds, ρ => putAll is ds (ρ.set i (some d))
  | _, _, ρ => ρ
def unpR (n : Nat) (d : D) : R (List D) := match d with
  | .tup ds => if ds.length = n then .ok ds else .st
  | _ => .st
def unpS (is : List Nat) (f : Env → R D) (ρ : Env) : Sr := bindS ((f ρ).bind (unpR is.length)) ρ fun ds => .nx (putAll is ds ρ)
def Sr.seq : Sr → (Env → Sr) → Sr
  | .nx ρ, b => b ρ
  | r, _ => r
def popS (i : Nat) (fp : Env → R (List Nat)) (is : List Nat) (ρ : Env) : Sr := bindS (fp ρ) ρ fun p => match atP i p ρ with
  | some (.lst ds) => (match ds[ds.length - 1]? with
    | some d => if immD d = true then bindS (unpR is.length d) ρ fun es => (putP i p (.lst ds.dropLast) ρ).seq fun ρ' => .nx (putAll is es ρ') else .st
    | none => .st)
  | _ => .st
def gNames : List Nat → TGs
  | [] => gNil
  | i :: is => gCons (gName i) (gNames is)
section
variable {K : PySem.W.Frag} {S H : Hp} {own : List Nat} {F : Nat → List Addr} {ρ : Env} {σ : L2.St}
theorem Stx.put2 (h : Stx own K S F ρ σ H) {v : V} {d : D} {A : List Addr} (f : Fu K H v d A) (hA : ∀ a ∈ A, S a = none ∧ ∀ j ∈ own, a ∉ F j) (i : Nat) :
    Stx (i :: own) K S (fun j => if j = i then A else F j) (ρ.set i (some d)) (σ.set i (some v)) H := by
  refine ⟨by rw [List.length_set, List.length_set]; exact h.len, h.sub, h.cl, fun j e q => ?_, fun j m a ha => ?_, fun j mj k mk ne a ha => ?_⟩
  · rcases get_set q with ⟨rfl, e1, hl⟩ | ⟨ne, q⟩
    · cases e1
      refine ⟨v, ?_, fun _ => ?_, fun m => absurd List.mem_cons_self m⟩
      · rw [List.getElem?_set_self (by rw [← h.len]; exact hl)]
      · rw [if_pos rfl]; exact f
    · obtain ⟨u, h1, h2, h3⟩ := h.val j e q
      refine ⟨u, by rw [List.getElem?_set_ne (Ne.symm ne)]; exact h1, fun m => ?_, fun m => h3 fun z => m (List.mem_cons_of_mem _ z)⟩
      rw [if_neg ne]
      exact h2 ((List.mem_cons.mp m).resolve_left ne)
  · by_cases e : j = i
    · rw [if_pos e] at ha
      exact ⟨(hA a ha).1, f.soft a ha⟩
    · rw [if_neg e] at ha
      exact h.out j ((List.mem_cons.mp m).resolve_left e) a ha
  · intro hk
    by_cases ej : j = i
    · rw [if_pos ej] at ha
      have ek : k ≠ i := fun z => ne (ej.trans z.symm)
      rw [if_neg ek] at hk
      exact (hA a ha).2 k ((List.mem_cons.mp mk).resolve_left ek) hk
    · rw [if_neg ej] at ha
      by_cases ek : k = i
      · rw [if_pos ek] at hk
        exact (hA a hk).2 j ((List.mem_cons.mp mj).resolve_left ej) ha
      · rw [if_neg ek] at hk
        exact h.dis j ((List.mem_cons.mp mj).resolve_left ej) k ((List.mem_cons.mp mk).resolve_left ek) ne a ha hk
theorem names_put {Q : L2.St → Hp → Prop} : ∀ {is : List Nat} {vs : List V} {ds : List D} {A : List Addr} {own : List Nat} {F : Nat → List Addr} {ρ : Env} {σ : L2.St}, Stx own K S F ρ σ H → Fus K H vs ds A → (∀ a ∈ A, S a = none ∧ ∀ j ∈ own, a ∉ F j) → ds.length = is.length →
    (∀ σ' F', Stx (is.reverse ++ own) K S F' (putAll is ds ρ) σ' H → Q σ' H) → gNames is vs σ H Q
  | [], _, _, _, own, F, ρ, σ, st, f, hA, hl, q => by
    cases f with
    | nil => exact ⟨rfl, q σ F st⟩
    | cons _ _ _ => cases hl
  | i :: is, _, _, _, own, F, ρ, σ, st, f, hA, hl, q => by
    cases f with
    | nil => cases hl
    | @cons v vs d ds A B h r m =>
      refine ⟨v, vs, rfl, ?_⟩
      refine names_put (st.put2 h (fun a ha => hA a (List.mem_append_left _ ha)) i) r (fun a ha => ⟨(hA a (List.mem_append_right _ ha)).1, fun j mj => ?_⟩) (by simpa using hl) fun σ' F' st' => ?_
      · by_cases e : j = i
        · rw [if_pos e]
          exact fun z => m a z ha
        · rw [if_neg e]
          exact (hA a (List.mem_append_right _ ha)).2 j ((List.mem_cons.mp mj).resolve_left e)
      · refine q σ' F' ?_
        rw [List.reverse_cons, List.append_assoc]
        exact st'
theorem names_lay {Q : L2.St → Hp → Prop} : ∀ {is : List Nat} {vs : List V} {ds : List D} {ρ : Env} {σ : L2.St}, Stx own K S F ρ σ H → Rds K S vs ds → ds.length = is.length → (∀ i ∈ is, i ∉ own) →
    (∀ σ', Stx own K S F (putAll is ds ρ) σ' H → (∀ k, k ∉ is → σ'[k]? = σ[k]?) → σ'.length = σ.length → Q σ' H) → gNames is vs σ H Q
  | [], _, _, ρ, σ, st, f, hl, hn, q => by
    cases f with
    | nil => exact ⟨rfl, q σ st (fun _ _ => rfl) rfl⟩
    | cons _ _ => cases hl
  | i :: is, _, _, ρ, σ, st, f, hl, hn, q => by
    cases f with
    | nil => cases hl
    | @cons v vs d ds h r =>
      refine ⟨v, vs, rfl, ?_⟩
      refine names_lay (st.lay (hn i List.mem_cons_self) h) r (by simpa using hl) (fun j hj => hn j (List.mem_cons_of_mem _ hj)) fun σ' st' k' l' => q σ' st' (fun k hk => ?_) (by rw [l', List.length_set])
      rw [k' k fun z => hk (List.mem_cons_of_mem _ z), List.getElem?_set_ne fun e => hk (by rw [← e]; exact List.mem_cons_self)]
end
def tgTs (is : List Nat) (d : D) (ρ : Env) : Option Env := match d with
  | .tup ds => if ds.length = is.length then some (putAll is ds ρ) else none
  | _ => none
theorem tk_tups {X : Cx} {own : List Nat} (is : List Nat) {n : Nat} (hn : n = is.length) (hi : ∀ i ∈ is, i ∉ own) : TgOk X own is (gTup X.K n (gNames is)) (tgTs is) := fun S F ρ σ H v d ρ' st r e Q q => by
  unfold tgTs at e
  split at e
  · split at e
    · rename_i hl
      cases e
      cases r with
      | tup h r =>
        refine ⟨_, _, rfl, (seqT st.sub h).sq, by rw [r.length, hl, hn], names_lay st r hl hi fun σ' st' k' l' => q σ' st' k' l'⟩
    · cases e
  · cases e
section
variable {X : Cx} {W : WX} {own own' ol : List Nat} {i : Nat} {f fk fe : Env → R D} {fp : Env → R (List Nat)} {st : Stmt}
/-- a, b, .. = e -/
theorem vs_unpack (is : List Nat) {n : Nat} (p : PS X st (tAsg (tG X.K X.mg W f) (gTup X.K n (gNames is)))) (hn : n = is.length) : VS X W own (is.reverse ++ own) ol st (unpS is f) := ⟨psW p fun En σ H ⟨B, ρ, x, q⟩ => by
  unfold unpS at q
  have q := SEnd.out x q
  obtain ⟨S, F, b, y⟩ := x
  refine ⟨ρ, y.env, (Out.bind q).mono fun d _ q v H1 A s1 f1 n1 => ?_⟩
  unfold unpR at q
  cases d with
  | tup ds =>
    have q : Out X.mg W σ H (if ds.length = is.length then R.ok ds else R.st) _ := q
    by_cases hl : ds.length = is.length
    · rw [if_pos hl] at q
      cases f1 with
      | tup h r =>
        have y1 := y.grow s1 (A := []) (fun _ z => nomatch z)
        refine ⟨_, _, rfl, TpT.sq h, by rw [r.length, hl, hn], names_put y1 r (fun a ha => ?_) hl fun σ' F' st' => q _ _ ⟨_, _, b.trans (ext_s []), st'⟩⟩
        exact y.fresh s1 (.tup h r) n1 a ha
    · rw [if_neg hl] at q; exact q.elim
  | _ => exact q.elim⟩
/-- place.extend(e) -/
theorem vs_extendP (p : PS X st (tDrop (tBM X.K "list" (rExtendS X.K) (tL X.K X.mg W own i fp) (tCons (tF X.K X.mg W f) tNil)))) (hi : i ∈ own := by decide) : VS X W own own ol st (extP i fp f) := ⟨psW p fun En σ H ⟨B, ρ, x, q⟩ => by
  unfold extP at q
  have q := SEnd.out x q
  obtain ⟨S, F, b, y⟩ := x
  refine ⟨ρ, S, F, y, hi, q.mono fun pt _ q => ?_⟩
  cases ha : atP i pt ρ with
  | none => rw [ha] at q; exact q.elim
  | some d0 =>
    rw [ha] at q
    cases d0 with
    | lst ds =>
      obtain ⟨g0, v, l, vs, e1, e2, e3, e4, e5⟩ := put_list (W := W) (ol := ol) (B := B) y hi ha
      refine ⟨g0, fun v' w H1 hv s1 nv => ?_⟩
      rw [e1] at hv
      cases hv
      have ew := navH_fun (navH_mono s1 e2) nv
      subst ew
      have y1 := y.grow s1 (A := []) (fun _ z => nomatch z)
      have q := SEnd.out (own' := own) (σ := σ) (H := H1) ⟨_, _, b.trans (ext_s []), y1⟩ (show SEnd X.K X.mg W own ol B En (bindS (f ρ) ρ _) from q)
      refine ⟨.inl ⟨rfl, _, .inl (.inl (s1 _ _ e3))⟩, ρ, y1.env, q.mono fun d _ q u H2 s2 r2 => ?_⟩
      cases d with
      | lst es =>
        have q : SEnd X.K X.mg W own ol B En (if ds.length + es.length ≤ sizeLine ∧ immDs es = true then putP i pt (.lst (ds ++ es)) ρ else .st) := q
        by_cases hz : ds.length + es.length ≤ sizeLine ∧ immDs es = true
        rotate_left
        · rw [if_neg hz] at q; exact q.elim
        rw [if_pos hz] at q
        have y2 := y1.grow s2 (A := []) (fun _ z => nomatch z)
        cases r2 with
        | @lst l2 ws _ h2 r2 =>
          refine ⟨l, l2, vs, ws, rfl, rfl, (s1.trans s2) _ _ e3, h2, by rw [e4.length, r2.length]; exact hz.1, ?_⟩
          refine e5 _ H2 _ _ _ En y2 (s1.trans s2) ((b.trans (ext_s [])).trans (ext_s [])) (fun A r k n m => ?_) q
          exact ⟨A ++ [], r.app (r2.fu hz.2) (fun a ha hb => nomatch hb), fun a ha => by rw [List.append_nil] at ha; exact .inl ha⟩
      | _ => exact q.elim
    | _ => exact q.elim⟩
/-- place[k] += e, ints -/
theorem vs_augP (p : PS X st (tAugS (tL X.K X.mg W own i fp) (tF X.K X.mg W fk) (tF X.K X.mg W fe) (rGetL X.K) (ipI fun i j => i + j) rSetL)) (hi : i ∈ own := by decide) : VS X W own own ol st (augPS i fp fk fe) := ⟨psW p fun En σ H ⟨B, ρ, x, q⟩ => by
  unfold augPS at q
  have q := SEnd.out x q
  obtain ⟨S, F, b, y⟩ := x
  refine ⟨ρ, S, F, y, hi, q.mono fun pt _ q => ?_⟩
  cases ha : atP i pt ρ with
  | none => rw [ha] at q; exact q.elim
  | some d0 =>
    rw [ha] at q
    cases d0 with
    | lst ds =>
      obtain ⟨g0, v, l, vs, e1, e2, e3, e4, e5⟩ := put_list (W := W) (ol := ol) (B := B) y hi ha
      refine ⟨g0, fun v' w H1 hv s1 nv => ?_⟩
      rw [e1] at hv
      cases hv
      have ew := navH_fun (navH_mono s1 e2) nv
      subst ew
      have y1 := y.grow s1 (A := []) (fun _ z => nomatch z)
      have b1 := b.trans (ext_s (S := S) (H := H1) [])
      have q := SEnd.out (own' := own) (σ := σ) (H := H1) ⟨_, _, b1, y1⟩ (show SEnd X.K X.mg W own ol B En (bindS (fk ρ) ρ _) from q)
      refine ⟨ρ, y1.env, q.mono fun k _ q kv H2 s2 rk => ?_⟩
      cases k with
      | int n =>
        have q : SEnd X.K X.mg W own ol B En (if 0 ≤ n then (match ixN ds.length n with
          | some j => (match ds[j]? with
            | some (.int x) => bindS (fe ρ) ρ fun y => (match y with
              | .int y => putP i pt (.lst (ds.set j (.int (x + y)))) ρ
              | _ => .st)
            | _ => .st)
          | none => .st) else .st) := q
        by_cases h0 : 0 ≤ n
        rotate_left
        · rw [if_neg h0] at q; exact q.elim
        rw [if_pos h0] at q
        cases ej : ixN ds.length n with
        | none => rw [ej] at q; exact q.elim
        | some j =>
          rw [ej] at q
          cases rk
          have y2 := y1.grow s2 (A := []) (fun _ z => nomatch z)
          have b2 := b1.trans (ext_s (S := _) (H := H2) [])
          have q : SEnd X.K X.mg W own ol B En (match ds[j]? with
            | some (.int x) => bindS (fe ρ) ρ fun y => (match y with
              | .int y => putP i pt (.lst (ds.set j (.int (x + y)))) ρ
              | _ => .st)
            | _ => .st) := q
          cases ex : ds[j]? with
          | none => rw [ex] at q; exact q.elim
          | some x0 =>
            rw [ex] at q
            cases x0 with
            | int x =>
              obtain ⟨xv, hx1, hx2⟩ := e4.get ex
              cases hx2
              refine ⟨l, vs, n, .int x, rfl, rfl, SqL.of ((s1.trans s2) _ _ e3), h0, by unfold atI; rw [e4.length, ej]; exact hx1, ?_⟩
              have q := SEnd.out (own' := own) (σ := σ) (H := H2) ⟨_, _, b2, y2⟩ (show SEnd X.K X.mg W own ol B En (bindS (fe ρ) ρ _) from q)
              refine ⟨ρ, y2.env, q.mono fun e _ q u H3 s3 r3 => ?_⟩
              cases e with
              | int z =>
                cases r3
                have y3 := y2.grow s3 (A := []) (fun _ z => nomatch z)
                refine ⟨x, z, rfl, rfl, l, vs, n, j, rfl, rfl, ((s1.trans s2).trans s3) _ _ e3, by rw [e4.length]; exact ej, ?_⟩
                refine e5 _ H3 _ _ _ En y3 ((s1.trans s2).trans s3) (b2.trans (ext_s [])) (fun A r k n m => ?_) q
                obtain ⟨A', r', k'⟩ := Fus.set (vs := vs) (ds := ds) (A := A) (Fu.int (K := X.K) (H := H3) (x + z)) r (fun a ha => nomatch ha) j
                exact ⟨A', r', fun a ha => (k' a ha).imp id fun z => nomatch z⟩
              | _ => exact q.elim
            | _ => exact q.elim
      | _ => exact q.elim
    | _ => exact q.elim⟩
theorem Fus.dropLast {K : PySem.W.Frag} {H : Hp} : ∀ {vs : List V} {ds : List D} {A : List Addr}, Fus K H vs ds A → ∃ A', Fus K H vs.dropLast ds.dropLast A' ∧ ∀ a ∈ A', a ∈ A := by
  intro vs
  induction vs with
  | nil =>
    intro ds A f
    cases f
    exact ⟨[], .nil, fun _ h => h⟩
  | cons v vs ih =>
    intro ds A f
    cases f with
    | @cons _ _ d ds A B h r m =>
      cases r with
      | nil => exact ⟨[], .nil, fun _ h => nomatch h⟩
      | @cons w ws e es A2 B2 h2 r2 m2 =>
        obtain ⟨A', r', k⟩ := ih (.cons h2 r2 m2)
        refine ⟨A ++ A', .cons h r' fun x hx hy => m x hx (k x hy), fun a ha => ?_⟩
        rcases List.mem_append.mp ha with z | z
        · exact List.mem_append_left _ z
        · exact List.mem_append_right _ (k a z)
/-- a, b, .. = place.pop() -/
theorem vs_popT (is : List Nat) {n : Nat} (p : PS X st (tAsg (tBM0 X.K "list" rPop (tL X.K X.mg W own i fp)) (gTup X.K n (gNames is)))) (hn : n = is.length) (hi : i ∈ own := by decide) : VS X W own (is.reverse ++ own) ol st (popS i fp is) := ⟨psW p fun En σ H ⟨B, ρ, x, q⟩ => by
  unfold popS at q
  have q := SEnd.out x q
  obtain ⟨S, F, b, y⟩ := x
  refine ⟨ρ, S, F, y, hi, q.mono fun pt _ q => ?_⟩
  cases ha : atP i pt ρ with
  | none => rw [ha] at q; exact q.elim
  | some d0 =>
    rw [ha] at q
    cases d0 with
    | lst ds =>
      obtain ⟨g0, v, l, vs, e1, e2, e3, e4, e5⟩ := put_core y hi ha
      refine ⟨g0, fun v' w H1 hv s1 nv => ?_⟩
      rw [e1] at hv
      cases hv
      have ew := navH_fun (navH_mono s1 e2) nv
      subst ew
      have q : SEnd X.K X.mg W (is.reverse ++ own) ol B En (match ds[ds.length - 1]? with
        | some d => if immD d = true then bindS (unpR is.length d) ρ fun es => (putP i pt (.lst ds.dropLast) ρ).seq fun ρ' => .nx (putAll is es ρ') else .st
        | none => .st) := q
      cases ed : ds[ds.length - 1]? with
      | none => rw [ed] at q; exact q.elim
      | some d =>
        rw [ed] at q
        have q : SEnd X.K X.mg W (is.reverse ++ own) ol B En (if immD d = true then bindS (unpR is.length d) ρ fun es => (putP i pt (.lst ds.dropLast) ρ).seq fun ρ' => .nx (putAll is es ρ') else .st) := q
        by_cases hm : immD d = true
        rotate_left
        · rw [if_neg hm] at q; exact q.elim
        rw [if_pos hm] at q
        obtain ⟨u, hu, ru⟩ := e4.get ed
        have y1 := y.grow s1 (A := []) (fun _ z => nomatch z)
        obtain ⟨d', F', h1, y2⟩ := e5 _ H1 _ vs.dropLast ds.dropLast y1 s1 (fun A r k n m => by
          obtain ⟨A', r', k'⟩ := r.dropLast
          exact ⟨A', r', fun a ha => .inl (k' a ha)⟩)
        refine ⟨.inl ⟨rfl, _, .inl (.inl (s1 _ _ e3))⟩, l, vs, u, rfl, rfl, s1 _ _ e3, by rw [e4.length]; exact hu, ?_⟩
        cases d with
        | tup es =>
          have q : SEnd X.K X.mg W (is.reverse ++ own) ol B En (bindS (if es.length = is.length then .ok es else .st) ρ fun es => (putP i pt (.lst ds.dropLast) ρ).seq fun ρ' => .nx (putAll is es ρ')) := q
          by_cases hl : es.length = is.length
          · rw [if_pos hl, bindS_ok, h1] at q
            have fu := (ru.fu hm).same s1
            cases fu with
            | tup h r =>
              have hlo : ∃ o, H1 l = some o ∧ ¬ Stt o := ⟨_, s1 _ _ e3, fun z => (show False from z)⟩
              refine ⟨_, _, rfl, (upd_seqT hlo h).sq, by rw [r.length, hl, hn], names_put y2 (r.at (fun a ha => nomatch ha) fun b xs hs => upd_seqT hlo hs) (fun a ha => nomatch ha) hl fun σ' F' st' => q _ _ ⟨_, _, b.trans (ext_s []), st'⟩⟩
          · rw [if_neg hl] at q; exact q.elim
        | _ => exact q.elim
    | _ => exact q.elim⟩
end
theorem vss_st {X : Cx} {W : WX} {own own' ol : List Nat} {st : List Stmt} : VSs X W own own' ol st (fun _ => .st) := ⟨⟨fun pins s σ H D I x => by obtain ⟨_, _, _, q⟩ := x; exact q.elim⟩⟩
theorem Cal.at {P : Program} {w : World} {K : PySem.W.Frag} {mg : Str → Option Value} {base : Heap} {x : Str} {ps : List Str} {k k' : Nat} {m : List D → R D} (C : Cal P w K mg base x ps k m) (h : k = k') : Cal P w K mg base x ps k' m := h ▸ C
end Vs

namespace Vs
open PySem PySem.Spec PyProof.Rows L2

/-! ### methods of texts -/
def strsO : List D → Option (List Str)
  | [] => some []
  | .str i :: r => (strsO r).map (i :: ·)
  | _ => none
theorem strsO_map : ∀ ys : List Str, strsO (ys.map D.str) = some ys
  | [] => rfl
  | y :: ys => by rw [List.map_cons, strsO, strsO_map ys]; rfl
theorem strsO_eq : ∀ {xs : List D} {ys : List Str}, strsO xs = some ys → xs = ys.map D.str
  | [], ys, h => by cases h; rfl
  | .str i :: xs, ys, h => by
    rw [strsO] at h
    cases e : strsO xs with
    | none => rw [e] at h; cases h
    | some ms =>
      rw [e] at h
      cases h
      rw [List.map_cons, strsO_eq e]
  | .int _ :: _, _, h => by cases h
  | .non :: _, _, h => by cases h
  | .bl _ :: _, _, h => by cases h
  | .lst _ :: _, _, h => by cases h
  | .tup _ :: _, _, h => by cases h
  | .dic _ _ :: _, _, h => by cases h
  | .fn _ :: _, _, h => by cases h
  | .exc _ _ :: _, _, h => by cases h
  | .obj _ _ _ :: _, _, h => by cases h
theorem rds_strs {K : PySem.W.Frag} {H : Hp} : ∀ {ys : List Str} {vs : List V}, Rds K H vs (ys.map D.str) → vs = ys.map V.str
  | [], vs, r => by cases r; rfl
  | y :: ys, vs, r => by
    cases r with
    | cons h r => cases h; rw [rds_strs r]; rfl
def m1E (g : Str → D → R D) (f h : Env → R D) (ρ : Env) : R D := (f ρ).bind fun d => match d with
  | .str a => (h ρ).bind (g a)
  | _ => .st
def m0E (g : Str → R D) (f : Env → R D) (ρ : Env) : R D := (f ρ).bind fun d => match d with
  | .str a => g a
  | _ => .st
def joinG (a : Str) : D → R D
  | .lst xs => match strsO xs with
    | some ys => if (ys.map (·.length)).sum + ys.length * a.length ≤ 16777216 then .ok (.str (Txt.join a ys)) else .st
    | none => .st
  | .tup xs => match strsO xs with
    | some ys => if (ys.map (·.length)).sum + ys.length * a.length ≤ 16777216 then .ok (.str (Txt.join a ys)) else .st
    | none => .st
  | _ => .st
def splitG (a : Str) : D → R D
  | .str b => if (b.length == 0) = false ∧ a.length + 2 ≤ sizeLine then .ok (.lst ((Txt.split a b).map D.str)) else .st
  | _ => .st
def startsG (a : Str) : D → R D
  | .str b => .ok (.bl (Txt.startswith a b))
  | _ => .st
def findG (a : Str) : D → R D
  | .str b => .ok (.int (Txt.find a b))
  | _ => .st
def countG (a : Str) : D → R D
  | .str b => .ok (.int (Txt.count a b))
  | _ => .st
/-- a method's rule over data -/
def MtD (X : Cx) (r : V → List V → Hp → VK → Prop) (g : Str → D → R D) : Prop := ∀ (a : Str) (v : V) (d : D) (H : Hp) (Q : VK) (z : D), Rd X.K H v d → g a d = .ok z → (∀ v H' A, Same H H' → Fu X.K H' v z A → (∀ a ∈ A, H a = none) → Q v H') → r (.str a) [v] H Q
section
variable {X : Cx} {W : WX} {o e : Expr} {f h : Env → R D} {g : Str → D → R D} {r : V → List V → Hp → VK → Prop} {id : String} {name : Str} {apos pos : Pos}
theorem vg_m1 (slot : Slot "str" name id) (ty : typeOf (.builtin id) = pure (.type "method_descriptor")) (rule : MtR X id r) (k : MtD X r g) (n : ∀ a d c, g a d ≠ .ex c) (ho : VE X W o f) (he : VE X W e h)
    (hs : starEach [e] X.env = [(false, eval e X.env)] := by rfl) (hbase : attributeBase o name X.env (eval o X.env) = eval o X.env := by rfl) (hline : (apos.endLine == pos.line) = true := by rfl) :
    VG X W (.Call (.Attribute o name apos) [e] [] pos) (m1E g f h) := ⟨peW (pe_m1 slot ty rule ho.pe he.pe hs hbase hline) fun σ H Q ⟨ρ, re, q⟩ => ⟨ρ, re, (Out.bind q).mono fun d _ q v H1 s1 r1 => by
  cases d with
  | str a =>
    cases r1
    refine ⟨⟨a, rfl⟩, ρ, re.mono s1, ((Out.bind (show Out X.mg W σ H ((h ρ).bind (g a)) _ from q)).up s1).mono fun e _ q w H2 s2 r2 => ?_⟩
    cases hz : g a e with
    | ok z =>
      rw [hz] at q
      exact k a w e H2 Q z r2 hz fun u H3 A s3 f3 n3 => q u H3 A ((s1.trans s2).trans s3) f3 fun a ha => (s1.trans s2).free (n3 a ha)
    | ex c => exact absurd hz (n a e c)
    | st => rw [hz] at q; exact q.elim
  | _ => exact q.elim⟩⟩
theorem ld_strs {K : PySem.W.Frag} {H : Hp} {ys : List Str} : ∀ {p : Addr}, H p = none → Fu K (upd H p (.lst (ys.map V.str))) (.ref p) (.lst (ys.map D.str)) [p] := fun hp =>
  fu_new_lst hp (by
    induction ys with
    | nil => exact .nil
    | cons y ys ih => exact .cons (.str y) ih) (by
    induction ys with
    | nil => rfl
    | cons y ys ih => rw [List.map_cons, immDs, immD, ih]; rfl)
theorem md_join : MtD X (fun x xs H Q => ∃ a p, ∃ ys : List Str, x = .str a ∧ xs = [.ref p] ∧ (SqL X.K H p (ys.map V.str) ∨ SqT X.K H p (ys.map V.str)) ∧ (ys.map (·.length)).sum + ys.length * a.length ≤ 16777216 ∧ Q (.str (Txt.join a ys)) H) joinG := fun a v d H Q z rd hz q => by
  unfold joinG at hz
  split at hz
  · rename_i xs
    split at hz
    · rename_i ys hs
      split at hz
      · rename_i c
        cases hz
        cases rd with
        | lst h1 r1 =>
          have e := strsO_eq hs
          subst e
          have ev := rds_strs r1
          subst ev
          exact ⟨_, _, ys, rfl, rfl, .inl h1, c, q _ H [] (Same.refl H) (.str _) (fun _ h => nomatch h)⟩
      · cases hz
    · cases hz
  · rename_i xs
    split at hz
    · rename_i ys hs
      split at hz
      · rename_i c
        cases hz
        cases rd with
        | tup h1 r1 =>
          have e := strsO_eq hs
          subst e
          have ev := rds_strs r1
          subst ev
          exact ⟨_, _, ys, rfl, rfl, .inr h1.sq, c, q _ H [] (Same.refl H) (.str _) (fun _ h => nomatch h)⟩
      · cases hz
    · cases hz
  · cases hz
theorem mn_join : ∀ a d c, joinG a d ≠ .ex c := fun a d c h => by
  unfold joinG at h
  repeat' split at h
  all_goals cases h
theorem md_split : MtD X (fun x xs H Q => ∃ a b, x = .str a ∧ xs = [.str b] ∧ (b.length == 0) = false ∧ a.length + 2 ≤ sizeLine ∧ rNewStrs (Txt.split a b) H Q) splitG := fun a v d H Q z rd hz q => by
  unfold splitG at hz
  split at hz
  · split at hz
    · rename_i c
      cases hz
      cases rd
      exact ⟨_, _, rfl, rfl, c.1, c.2, fun p hp => q _ _ [p] (new_same hp) (ld_strs hp) fun a ha => by rw [List.mem_singleton.mp ha]; exact hp⟩
    · cases hz
  · cases hz
theorem mn_split : ∀ a d c, splitG a d ≠ .ex c := fun a d c h => by
  unfold splitG at h
  repeat' split at h
  all_goals cases h
end
end Vs

namespace Vs
open PySem PySem.Spec PyProof.Rows L2

/-! ### tuples of ints in order -/
def ltT : D → D → R D
  | .tup xs, .tup ys => match intsO xs, intsO ys with
    | some ns, some ms => .ok (.bl (HT.lexLt ns ms))
    | _, _ => .st
  | _, _ => .st
theorem nx_ltT : NoEx2 ltT := fun d e c h => by
  unfold ltT at h
  repeat' split at h
  all_goals cases h
section
variable {X : Cx}
theorem d_ltT : OpD X (rLtT X.K) ltT := fun x y d e H Q z rx ry h q => by
  unfold ltT at h
  split at h
  · split at h
    · rename_i ns ms e1 e2
      cases h
      cases rx with
      | tup h1 r1 =>
        cases ry with
        | tup h2 r2 =>
          have v1 := intsO_rd e1 r1
          have v2 := intsO_rd e2 r2
          subst v1 v2
          exact ⟨_, _, ns, ms, rfl, rfl, h1.sq, h2.sq, q _ H [] (Same.refl H) (.bl _) (fun _ h => nomatch h)⟩
    · cases h
  · cases h
end
end Vs

namespace Vs
open PySem PySem.Spec PyProof.Rows L2

/-! ### a sign so many times -/
def repSign (c n : Nat) : Str := ⟨(List.replicate n c).toArray⟩
theorem fold_sign (c : Nat) : ∀ (n : Nat) (acc : List Nat), (List.replicate n #[c]).foldl (· ++ ·) acc.toArray = (acc ++ List.replicate n c).toArray
  | 0, acc => by simp
  | n + 1, acc => by
    rw [List.replicate_succ, List.foldl_cons, List.replicate_succ]
    have h := fold_sign c n (acc ++ [c])
    rw [show (acc.toArray ++ #[c]) = (acc ++ [c]).toArray by simp]
    rw [h, List.append_assoc]
    rfl
section
variable {X : Cx}
def rMulS : R2 := fun x y H Q => ∃ c i, x = .str ⟨#[c]⟩ ∧ y = .int i ∧ 0 ≤ i ∧ i ≤ 16000000 ∧ Q (.str (repSign c i.toNat)) H
theorem op_mulS : OpR X (binaryOp .Mult) rMulS := by
  intro pins s σ H x y v u Q I rx ry h
  obtain ⟨c, i, rfl, rfl, h0, h1, q⟩ := h
  obtain ⟨t, rfl⟩ := rx
  obtain ⟨t', rfl⟩ := ry
  have hi : (decide (i < -(2 ^ 63 : Int)) || decide (i ≥ 2 ^ 63)) = false := by
    have e63 : (2 : Int) ^ 63 = 9223372036854775808 := by decide
    rw [e63, decide_eq_false (by omega), decide_eq_false (by omega)]
    rfl
  have hl : (⟨#[c]⟩ : Str).length = 1 := rfl
  refine P.mul_str hi (fun a b => ?_) (fun a b => ?_) ?_
  · rw [hl]
    have e63 : (2 : Int) ^ 63 = 9223372036854775808 := by decide
    rw [e63]
    have : 1 ≤ (9223372036854775808 - 1) / i := by
      refine (Int.le_ediv_iff_mul_le (by omega)).mpr ?_
      omega
    omega
  · rw [hl, Nat.one_mul]
    unfold Builtin.Str.tooLong
    first
      | exact decide_eq_false (by have : sizeLine = 16777216 := by decide
                                  omega)
      | simp
  · by_cases a : i < 1
    · rw [if_pos a]
      have e : i.toNat = 0 := by omega
      rw [e] at q
      exact ⟨by decide, ⟨.str _, H, I.tok _, ⟨_, rfl⟩, q⟩⟩
    · rw [if_neg a]
      by_cases b : (i == 1 || (⟨#[c]⟩ : Str).length == 0) = true
      · rw [if_pos b]
        have e : i = 1 := by
          rw [hl] at b
          simpa using b
        subst e
        exact ⟨.str _, H, I, ⟨_, rfl⟩, q⟩
      · rw [if_neg b]
        have e := fold_sign c i.toNat []
        rw [List.nil_append] at e
        have e : (List.replicate i.toNat #[c]).foldl (· ++ ·) #[] = (List.replicate i.toNat c).toArray := e
        show Made.post _ _ _
        simp only [e]
        refine ⟨?_, ⟨.str _, H, I.tok _, ⟨_, rfl⟩, q⟩⟩
        show (List.replicate i.toNat c).toArray.size ≤ sizeLine
        rw [List.size_toArray, List.length_replicate, sizeLine_eq]
        omega
def mulSD : D → D → R D
  | .str x, .int i => match x.cps.toList with
    | [c] => if 0 ≤ i ∧ i ≤ 16000000 then .ok (.str (repSign c i.toNat)) else .st
    | _ => .st
  | _, _ => .st
theorem nx_mulS : NoEx2 mulSD := fun d e c h => by
  unfold mulSD at h
  repeat' split at h
  all_goals cases h
theorem d_mulS : OpD X rMulS mulSD := fun x y d e H Q z rx ry h q => by
  unfold mulSD at h
  split at h
  · rename_i x0 i0
    split at h
    · rename_i c hc
      split at h
      · rename_i b
        cases h
        cases rx
        cases ry
        obtain ⟨⟨l⟩⟩ := x0
        simp only at hc
        subst hc
        exact ⟨c, _, rfl, rfl, b.1, b.2, q _ H [] (Same.refl H) (.str _) (fun _ h => nomatch h)⟩
      · cases h
    · cases h
  · cases h
end
end Vs

namespace Vs
open PySem PySem.Spec PyProof.Rows L2

/-! ### reckoning with meanings -/
theorem seqS_eq (a b : Env → Sr) (ρ : Env) : seqS a b ρ = (a ρ).seq b := by
  unfold seqS Sr.seq
  cases a ρ <;> rfl
theorem seq_nx (ρ : Env) (b : Env → Sr) : (Sr.nx ρ).seq b = b ρ := rfl
theorem seq_rt (d : D) (b : Env → Sr) : (Sr.rt d).seq b = .rt d := rfl
theorem seq_st (b : Env → Sr) : (Sr.st).seq b = .st := rfl
theorem seq_bk (ρ : Env) (b : Env → Sr) : (Sr.bk ρ).seq b = .bk ρ := rfl
theorem seq_ct (ρ : Env) (b : Env → Sr) : (Sr.ct ρ).seq b = .ct ρ := rfl
theorem seq_ex (c : Str) (ρ : Env) (b : Env → Sr) : (Sr.ex c ρ).seq b = .ex c ρ := rfl
theorem seq_ite (p : Prop) [Decidable p] (x y : Sr) (b : Env → Sr) : (if p then x else y).seq b = if p then x.seq b else y.seq b := by split <;> rfl
theorem body_nx (ρ : Env) : bodyR (.nx ρ) = .ok .non := rfl
theorem body_rt (d : D) : bodyR (.rt d) = .ok d := rfl
theorem body_ex (c : Str) (ρ : Env) : bodyR (.ex c ρ) = .ex c := rfl
theorem body_ite (p : Prop) [Decidable p] (x y : Sr) : bodyR (if p then x else y) = if p then bodyR x else bodyR y := by split <;> rfl
theorem bind_ite {α β : Type} (p : Prop) [Decidable p] (x y : R α) (f : α → R β) : (if p then x else y).bind f = if p then x.bind f else y.bind f := by split <;> rfl
theorem bindS_ite {α : Type} (p : Prop) [Decidable p] (x y : R α) (ρ : Env) (k : α → Sr) : bindS (if p then x else y) ρ k = if p then bindS x ρ k else bindS y ρ k := by split <;> rfl
theorem var0 (d : D) (ρ : Env) : varE 0 (some d :: ρ) = .ok d := rfl
theorem varS (i : Nat) (x : Option D) (ρ : Env) : varE (i + 1) (x :: ρ) = varE i ρ := rfl
theorem immD_int (i : Int) : immD (.int i) = true := by rw [immD]
theorem immD_bl (i : Bool) : immD (.bl i) = true := by rw [immD]
theorem immD_str (i : Str) : immD (.str i) = true := by rw [immD]
theorem immD_non : immD .non = true := by rw [immD]
theorem immD_tup (xs : List D) : immD (.tup xs) = immDs xs := by rw [immD]
theorem immD_lst (xs : List D) : immD (.lst xs) = false := by rw [immD]
theorem immDs_nil : immDs [] = true := by rw [immDs]
theorem immDs_cons (x : D) (xs : List D) : immDs (x :: xs) = (immD x && immDs xs) := by rw [immDs]
theorem immDs_ints : ∀ ns : List Int, immDs (ns.map D.int) = true
  | [] => by rw [List.map_nil, immDs]
  | n :: ns => by rw [List.map_cons, immDs, immD, immDs_ints ns]; rfl
theorem retV0 (d : D) (ρ : Env) : retV 0 (some d :: ρ) = .rt d := rfl
theorem retVS (i : Nat) (x : Option D) (ρ : Env) : retV (i + 1) (x :: ρ) = retV i ρ := rfl

/-! equality -/
theorem eqB_int (i j : Int) : eqB (.int i) (.int j) = decide (i = j) := by
  unfold eqB
  rw [pyD, pyD, PyData.eqv]
  first
    | rfl
    | (by_cases h : i = j <;> simp [h])
theorem shaped_int (i : Int) : SeqAt.shaped (pyD (.int i)) = true := by rw [pyD]; rfl
theorem eqD_int (i j : Int) : eqD (.int i) (.int j) = .ok (.bl (decide (i = j))) := by
  unfold eqD
  rw [if_pos ⟨shaped_int i, shaped_int j⟩, eqB_int]
theorem neD_int (i j : Int) : neD (.int i) (.int j) = .ok (.bl (!decide (i = j))) := by
  unfold neD
  rw [if_pos ⟨shaped_int i, shaped_int j⟩, eqB_int]

/-! lists by place -/
theorem atI_lt {α : Type} {xs : List α} {i : Int} (h0 : 0 ≤ i) (h : i < xs.length) : atI xs i = xs[i.toNat]? := by
  unfold atI ixN
  rw [if_pos h0, if_pos h]
  rfl
theorem ixD_lst {xs : List D} {i : Int} {d : D} (h0 : 0 ≤ i) (h : xs[i.toNat]? = some d) : ixD (.lst xs) (.int i) = .ok d := by
  have hl : i < xs.length := by
    have := (List.getElem?_eq_some_iff.mp h).1
    omega
  unfold ixD
  simp only
  rw [atI_lt h0 hl, h]
theorem ixD_tup {xs : List D} {i : Int} {d : D} (h0 : 0 ≤ i) (h : xs[i.toNat]? = some d) : ixD (.tup xs) (.int i) = .ok d := by
  have hl : i < xs.length := by
    have := (List.getElem?_eq_some_iff.mp h).1
    omega
  unfold ixD
  simp only
  rw [atI_lt h0 hl, h]
/-- the small sizes of products -/
theorem mulOk_of {i j : Int} {a b : Nat} (ha : i.natAbs < 2 ^ a) (hb : j.natAbs < 2 ^ b) (h : a + b ≤ 134000000 := by decide) : mulOk i j := by
  have x : ∀ {n k : Nat}, n < 2 ^ k → n.log2 ≤ k := fun {n k} h => by
    by_cases e : n = 0
    · subst e; rw [Nat.log2_zero]; exact Nat.zero_le _
    · exact Nat.le_of_lt ((Nat.log2_lt e).mpr h)
  have x1 := x ha
  have x2 := x hb
  unfold mulOk
  omega
theorem bits_lt {z : Int} {n : Nat} (h : Builtin.Int.intBits z ≤ n) : z.natAbs < 2 ^ n := by
  unfold Builtin.Int.intBits at h
  by_cases e : z.natAbs = 0
  · rw [e]; exact Nat.two_pow_pos n
  · split at h
    · rename_i h0
      simp at h0
      omega
    · exact (Nat.log2_lt e).mp (by omega)
theorem isT_int_non  : isT "int" (.non) = .ok (.bl false) := by simp [isT, clsD]
theorem isT_int_bl (b : Bool) : isT "int" (.bl b) = .ok (.bl true) := by simp [isT, clsD]
theorem isT_int_int (i : Int) : isT "int" (.int i) = .ok (.bl true) := by simp [isT, clsD]
theorem isT_int_str (x : Str) : isT "int" (.str x) = .ok (.bl false) := by simp [isT, clsD]
theorem isT_int_lst (xs : List D) : isT "int" (.lst xs) = .ok (.bl false) := by simp [isT, clsD]
theorem isT_int_tup (xs : List D) : isT "int" (.tup xs) = .ok (.bl false) := by simp [isT, clsD]
theorem isT_bool_non  : isT "bool" (.non) = .ok (.bl false) := by simp [isT, clsD]
theorem isT_bool_bl (b : Bool) : isT "bool" (.bl b) = .ok (.bl true) := by simp [isT, clsD]
theorem isT_bool_int (i : Int) : isT "bool" (.int i) = .ok (.bl false) := by simp [isT, clsD]
theorem isT_bool_str (x : Str) : isT "bool" (.str x) = .ok (.bl false) := by simp [isT, clsD]
theorem isT_bool_lst (xs : List D) : isT "bool" (.lst xs) = .ok (.bl false) := by simp [isT, clsD]
theorem isT_bool_tup (xs : List D) : isT "bool" (.tup xs) = .ok (.bl false) := by simp [isT, clsD]
theorem isT_str_non  : isT "str" (.non) = .ok (.bl false) := by simp [isT, clsD]
theorem isT_str_bl (b : Bool) : isT "str" (.bl b) = .ok (.bl false) := by simp [isT, clsD]
theorem isT_str_int (i : Int) : isT "str" (.int i) = .ok (.bl false) := by simp [isT, clsD]
theorem isT_str_str (x : Str) : isT "str" (.str x) = .ok (.bl true) := by simp [isT, clsD]
theorem isT_str_lst (xs : List D) : isT "str" (.lst xs) = .ok (.bl false) := by simp [isT, clsD]
theorem isT_str_tup (xs : List D) : isT "str" (.tup xs) = .ok (.bl false) := by simp [isT, clsD]
theorem isT_list_non  : isT "list" (.non) = .ok (.bl false) := by simp [isT, clsD]
theorem isT_list_bl (b : Bool) : isT "list" (.bl b) = .ok (.bl false) := by simp [isT, clsD]
theorem isT_list_int (i : Int) : isT "list" (.int i) = .ok (.bl false) := by simp [isT, clsD]
theorem isT_list_str (x : Str) : isT "list" (.str x) = .ok (.bl false) := by simp [isT, clsD]
theorem isT_list_lst (xs : List D) : isT "list" (.lst xs) = .ok (.bl true) := by simp [isT, clsD]
theorem isT_list_tup (xs : List D) : isT "list" (.tup xs) = .ok (.bl false) := by simp [isT, clsD]
theorem isT_tuple_non  : isT "tuple" (.non) = .ok (.bl false) := by simp [isT, clsD]
theorem isT_tuple_bl (b : Bool) : isT "tuple" (.bl b) = .ok (.bl false) := by simp [isT, clsD]
theorem isT_tuple_int (i : Int) : isT "tuple" (.int i) = .ok (.bl false) := by simp [isT, clsD]
theorem isT_tuple_str (x : Str) : isT "tuple" (.str x) = .ok (.bl false) := by simp [isT, clsD]
theorem isT_tuple_lst (xs : List D) : isT "tuple" (.lst xs) = .ok (.bl false) := by simp [isT, clsD]
theorem isT_tuple_tup (xs : List D) : isT "tuple" (.tup xs) = .ok (.bl true) := by simp [isT, clsD]

theorem modD_pos {i j : Int} (h : 0 < j) : modD (.int i) (.int j) = .ok (.int (i % j)) := by unfold modD; simp only; rw [if_pos h]
theorem fdivD_big {i j : Int} (h : 0 < j) (h2 : j.natAbs < 2 ^ 9000) : fdivD (.int i) (.int j) = .ok (.int (i / j)) := by
  unfold fdivD
  simp only
  rw [if_pos ⟨h, by
    have e : j.natAbs ≠ 0 := by omega
    exact (Nat.log2_lt e).mpr h2⟩]
theorem e64 : (2 : Nat) ^ 64 = 18446744073709551616 := by decide
theorem lt9000 {n : Nat} (h : n < 2 ^ 64) : n < 2 ^ 9000 := Nat.lt_trans h (Nat.pow_lt_pow_right (by decide) (by decide))
theorem fdivD_pos {i j : Int} (h : 0 < j) (h2 : j < 18446744073709551616) : fdivD (.int i) (.int j) = .ok (.int (i / j)) := fdivD_big h (lt9000 (by rw [e64]; omega))
theorem powD_ok {i j : Int} (h : 0 ≤ j) (h2 : j ≤ 1000000) (h3 : -18446744073709551616 < i) (h4 : i < 18446744073709551616) : powD (.int i) (.int j) = .ok (.int (i ^ j.toNat)) := by
  unfold powD; simp only; rw [if_pos ⟨h, bits_mul_le (by rw [e64]; omega) h h2⟩]
theorem powD_big {i j : Int} {n : Nat} (h : 0 ≤ j) (h2 : i.natAbs < 2 ^ n) (h3 : (n : Int) * j ≤ 134217728) : powD (.int i) (.int j) = .ok (.int (i ^ j.toNat)) := by
  have hb : Builtin.Int.intBits i ≤ n := intBits_le_iff.mpr h2
  have h4 : (Builtin.Int.intBits i : Int) * j ≤ (n : Int) * j := Int.mul_le_mul_of_nonneg_right (by omega) h
  have h5 : (2 : Int) ^ 27 = 134217728 := by decide
  unfold powD; simp only; rw [if_pos ⟨h, by omega⟩]
theorem shlD_ok {i j : Int} (h : 0 ≤ j) (h2 : j ≤ 1000000) (h3 : -18446744073709551616 < i) (h4 : i < 18446744073709551616) : shlD (.int i) (.int j) = .ok (.int (i * 2 ^ j.toNat)) := by
  unfold shlD; simp only; rw [if_pos ⟨h, bits_add_le (by rw [e64]; omega) h2⟩]
theorem shrD_ok {i j : Int} (h : 0 ≤ j) : shrD (.int i) (.int j) = .ok (.int (i / 2 ^ j.toNat)) := by unfold shrD; simp only; rw [if_pos h]
theorem mulD_ok {i j : Int} (h : mulOk i j) : mulD (.int i) (.int j) = .ok (.int (i * j)) := by unfold mulD; simp only; rw [if_pos h]
/-- of at most n bits -/
structure Bits (n : Nat) (z : Int) : Prop where
  lt : z.natAbs < 2 ^ n
theorem Bits.mono {n m : Nat} {z : Int} (h : Bits n z) (k : n ≤ m) : Bits m z := ⟨Nat.lt_of_lt_of_le h.lt (Nat.pow_le_pow_right (by decide) k)⟩
theorem Bits.of64 {z : Int} (h3 : -18446744073709551616 < z) (h4 : z < 18446744073709551616) : Bits 64 z := ⟨by rw [e64]; omega⟩
theorem Bits.mul {n m : Nat} {y z : Int} (h : Bits n y) (k : Bits m z) : Bits (n + m) (y * z) := ⟨by
  rw [Int.natAbs_mul, Nat.pow_add]
  exact Nat.mul_lt_mul'' h.lt k.lt⟩
theorem Bits.add {n : Nat} {y z : Int} (h : Bits n y) (k : Bits n z) : Bits (n + 1) (y + z) := ⟨by
  have h1 := h.lt
  have h2 := k.lt
  rw [Nat.pow_succ]
  omega⟩
theorem Bits.sub {n : Nat} {y z : Int} (h : Bits n y) (k : Bits n z) : Bits (n + 1) (y - z) := ⟨by
  have h1 := h.lt
  have h2 := k.lt
  rw [Nat.pow_succ]
  omega⟩
theorem Bits.neg {n : Nat} {z : Int} (h : Bits n z) : Bits n (-z) := ⟨by rw [Int.natAbs_neg]; exact h.lt⟩
theorem Bits.le {n : Nat} {y z : Int} (h : Bits n z) (k : y.natAbs ≤ z.natAbs) : Bits n y := ⟨Nat.lt_of_le_of_lt k h.lt⟩
theorem Bits.pow2 (k : Nat) : Bits (k + 1) (2 ^ k) := ⟨by
  rw [Int.natAbs_pow]
  exact Nat.pow_lt_pow_right (by decide) (Nat.lt_succ_self _)⟩
theorem Bits.of_int {z : Int} {n : Nat} (h : Builtin.Int.intBits z ≤ n) : Bits n z := ⟨bits_lt h⟩
theorem Bits.ok {n m : Nat} {y z : Int} (h : Bits n y) (k : Bits m z) (l : n + m ≤ 134000000 := by decide) : mulOk y z := mulOk_of h.lt k.lt l

/-! range with a step -/
theorem rangeSize_bd {i j c : Int} (hc : 0 < c) : 0 ≤ Builtin.Range.rangeSize i j c ∧ (Builtin.Range.rangeSize i j c = 0 ∨ Builtin.Range.rangeSize i j c ≤ j - i) := by
  unfold Builtin.Range.rangeSize
  rw [if_pos hc]
  split
  · have h1 := Int.ediv_nonneg (a := j - i - 1) (b := c) (by omega) (by omega)
    have h2 : (j - i - 1) / c ≤ j - i - 1 := Int.ediv_le_self _ (by omega)
    omega
  · omega
theorem okRange_pos {i j c : Int} (bi : bnd i) (bj : bnd j) (hc : 0 < c) (hc2 : c < 1073741824) : okRange i j c := by
  obtain ⟨h1, h2⟩ := rangeSize_bd (i := i) (j := j) hc
  obtain ⟨b1, b2⟩ := bi
  obtain ⟨b3, b4⟩ := bj
  refine ⟨by omega, by omega, ?_⟩
  have e62 : (2 : Int) ^ 62 = 4611686018427387904 := by decide
  have e63 : (2 : Int) ^ 63 = 9223372036854775808 := by decide
  rw [e62] at b1 b2 b3 b4
  unfold Builtin.Range.small Builtin.Range.rangeFitsLong
  simp only [Bool.and_eq_true, Bool.or_eq_true, decide_eq_true_eq, beq_iff_eq, e63, gt_iff_lt, if_pos hc]
  omega
theorem rngS_pos {i j c : Int} (bi : bnd i) (bj : bnd j) (hc : 0 < c) (hc2 : c < 1073741824) : rngS [.int i, .int j, .int c] = .ok (rngC i c (Builtin.Range.rangeSize i j c).toNat) := by
  unfold rngS
  simp only
  rw [if_pos (okRange_pos bi bj hc hc2)]
theorem rng1_ok {j : Int} (bj : bnd j) : rng1 [.int j] = .ok (rngL 0 j.toNat) := by unfold rng1; simp only; rw [if_pos bj]
theorem rng2_ok {i j : Int} (bi : bnd i) (bj : bnd j) : rng2 [.int i, .int j] = .ok (rngL i (j - i).toNat) := by unfold rng2; simp only; rw [if_pos ⟨bi, bj⟩]
theorem bnd_of {j : Int} (h : -4611686018427387904 ≤ j) (h2 : j < 4611686018427387904) : bnd j := by
  have e62 : (2 : Int) ^ 62 = 4611686018427387904 := by decide
  unfold bnd
  rw [e62]
  omega

/-! loops and comprehensions -/
/-- a loop whose turns all go on: an invariant by the turn -/
theorem forL_nx {tf : D → Env → Option Env} {b : Env → Sr} (I : Nat → Env → Prop) : ∀ {ds : List D} {ρ : Env} (n : Nat), I n ρ →
    (∀ i d ρ, ds[i]? = some d → I (n + i) ρ → ∃ ρ1 ρ2, tf d ρ = some ρ1 ∧ (b ρ1 = .nx ρ2 ∨ b ρ1 = .ct ρ2) ∧ I (n + i + 1) ρ2) → ∃ ρ', forL tf b ds ρ = .nx ρ' ∧ I (n + ds.length) ρ'
  | [], ρ, n, h, _ => ⟨ρ, rfl, h⟩
  | d :: ds, ρ, n, h, k => by
    obtain ⟨ρ1, ρ2, h1, h2, h3⟩ := k 0 d ρ rfl h
    obtain ⟨ρ', q1, q2⟩ := forL_nx I (ds := ds) (ρ := ρ2) (n + 1) h3 fun i d ρ hd hi => by
      have := k (i + 1) d ρ (by simpa using hd) (by rw [← Nat.add_assoc, Nat.add_right_comm]; exact hi)
      rw [← Nat.add_assoc, Nat.add_right_comm n i 1] at this
      exact this
    refine ⟨ρ', ?_, by rw [List.length_cons, Nat.add_comm ds.length 1, ← Nat.add_assoc]; exact q2⟩
    unfold forL
    rw [h1]
    simp only
    rcases h2 with e | e <;> rw [e] <;> exact q1
theorem forL_i {tf : D → Env → Option Env} {b : Env → Sr} (I : Nat → Env → Prop) {ds : List D} {ρ : Env} (h : I 0 ρ)
    (k : ∀ i d ρ, ds[i]? = some d → I i ρ → ∃ ρ1 ρ2, tf d ρ = some ρ1 ∧ (b ρ1 = .nx ρ2 ∨ b ρ1 = .ct ρ2) ∧ I (i + 1) ρ2) : ∃ ρ', forL tf b ds ρ = .nx ρ' ∧ I ds.length ρ' := by
  obtain ⟨ρ', h1, h2⟩ := forL_nx I 0 h fun i d ρ hd hi => by
    rw [Nat.zero_add] at hi ⊢
    exact k i d ρ hd hi
  exact ⟨ρ', h1, by rw [Nat.zero_add] at h2; exact h2⟩
/-- a turn that goes on, to where I holds -/
def Go (I : Env → Prop) : Sr → Prop
  | .nx ρ => I ρ
  | .ct ρ => I ρ
  | _ => False
theorem Go_nx {I : Env → Prop} {ρ : Env} : Go I (.nx ρ) = I ρ := rfl
theorem Go_ct {I : Env → Prop} {ρ : Env} : Go I (.ct ρ) = I ρ := rfl
theorem body_for {tf : D → Env → Option Env} {b q : Env → Sr} {ds : List D} {ρ : Env} {x : R D} (I : Env → Prop) (h : I ρ)
    (k : ∀ d ∈ ds, ∀ ρ, I ρ → ∃ ρ1, tf d ρ = some ρ1 ∧ Go I (b ρ1)) (fin : ∀ ρ, I ρ → bodyR (q ρ) = x) : bodyR ((forL tf b ds ρ).seq q) = x := by
  obtain ⟨ρ', h1, h2⟩ := forL_i (tf := tf) (b := b) (ds := ds) (fun _ => I) h fun i d ρ hd hi => by
    obtain ⟨ρ1, e1, e2⟩ := k d (List.mem_of_getElem? hd) ρ hi
    cases hb : b ρ1 with
    | nx ρ2 => rw [hb] at e2; exact ⟨ρ1, ρ2, e1, .inl hb, e2⟩
    | ct ρ2 => rw [hb] at e2; exact ⟨ρ1, ρ2, e1, .inr hb, e2⟩
    | st => rw [hb] at e2; exact e2.elim
    | rt d => rw [hb] at e2; exact e2.elim
    | bk ρ2 => rw [hb] at e2; exact e2.elim
    | ex c => rw [hb] at e2; exact e2.elim
  rw [h1]
  exact fin ρ' h2
/-- a loop by a state of one's own: enc tells the slots -/
theorem forL_enc {α : Type} {tf : D → Env → Option Env} {b : Env → Sr} (enc : α → Env → Prop) (step : α → D → α) : ∀ {ds : List D} {ρ : Env} {a : α}, enc a ρ →
    (∀ d ∈ ds, ∀ a ρ, enc a ρ → ∃ ρ1 ρ2, tf d ρ = some ρ1 ∧ (b ρ1 = .nx ρ2 ∨ b ρ1 = .ct ρ2) ∧ enc (step a d) ρ2) → ∃ ρ', forL tf b ds ρ = .nx ρ' ∧ enc (ds.foldl step a) ρ'
  | [], ρ, a, h, _ => ⟨ρ, rfl, h⟩
  | d :: ds, ρ, a, h, k => by
    obtain ⟨ρ1, ρ2, h1, h2, h3⟩ := k d List.mem_cons_self a ρ h
    obtain ⟨ρ', q1, q2⟩ := forL_enc enc step (ds := ds) h3 fun d hd => k d (List.mem_cons_of_mem _ hd)
    refine ⟨ρ', ?_, q2⟩
    unfold forL
    rw [h1]
    simp only
    rcases h2 with e | e <;> rw [e] <;> exact q1
theorem rngC_mem {lo c : Int} {n : Nat} {d : D} (h : d ∈ rngC lo c n) : ∃ i : Nat, i < n ∧ d = .int (lo + (i : Int) * c) := by
  obtain ⟨i, h1, h2⟩ := List.mem_map.mp h
  exact ⟨i, List.mem_range.mp h1, h2.symm⟩
theorem rngL_mem {lo : Int} {n : Nat} {d : D} (h : d ∈ rngL lo n) : ∃ i : Nat, i < n ∧ d = .int (lo + (i : Int)) := by
  obtain ⟨i, h1, h2⟩ := List.mem_map.mp h
  exact ⟨i, List.mem_range.mp h1, h2.symm⟩
/-- a comprehension without a test -/
theorem lcL_map {vs : List Nat} {tf : D → Env → Option Env} {f : Env → R D} {ρ : Env} (g : D → D) : ∀ {ds : List D}, (∀ d ∈ ds, ∃ ρ1, tf d (wipeD ρ vs) = some ρ1 ∧ f ρ1 = .ok (g d)) → lcL vs tf yesT f ρ ds = .ok (ds.map g)
  | [], _ => rfl
  | d :: ds, k => by
    obtain ⟨ρ1, h1, h2⟩ := k d List.mem_cons_self
    have ih := lcL_map g (ds := ds) fun d hd => k d (List.mem_cons_of_mem _ hd)
    unfold lcL
    rw [h1]
    simp only [yesT, nox, R.bind_ok, if_true, h2, ih, List.map_cons]
theorem lcE_map {vs : List Nat} {fi : Env → R (List D)} {tf : D → Env → Option Env} {f : Env → R D} {ρ : Env} {ds : List D} (g : D → D) (hi : fi ρ = .ok ds) (hl : ds.length ≤ sizeLine) (h : ∀ d ∈ ds, ∃ ρ1, tf d (wipeD ρ vs) = some ρ1 ∧ f ρ1 = .ok (g d)) :
    lcE vs fi tf yesT f ρ = .ok (.lst (ds.map g)) := by
  unfold lcE
  rw [hi, R.bind_ok, if_pos hl, lcL_map g h, R.bind_ok]
theorem le_line1000 {n : Nat} (h : n ≤ 16000000) : n ≤ sizeLine := by rw [sizeLine_eq]; omega
theorem rngC_length (lo c : Int) (n : Nat) : (rngC lo c n).length = n := by simp [rngC]
theorem rngL_length (lo : Int) (n : Nat) : (rngL lo n).length = n := by simp [rngL]
theorem intsO_map : ∀ ns : List Int, intsO (ns.map D.int) = some ns
  | [] => rfl
  | n :: ns => by rw [List.map_cons, intsO, intsO_map ns]; rfl
theorem atI_int {ns : List Int} {k : Int} (h0 : 0 ≤ k) (h : k < ns.length) : atI (ns.map D.int) k = some (.int (ns.getD k.toNat 0)) := by
  rw [atI_lt h0 (by rw [List.length_map]; exact h), List.getElem?_map]
  have hk : k.toNat < ns.length := by omega
  rw [List.getElem?_eq_getElem hk, List.getD_eq_getElem?_getD, List.getElem?_eq_getElem hk]
  rfl
theorem ixD_ints {ns : List Int} {k : Int} (h0 : 0 ≤ k) (h : k < ns.length) : ixD (.lst (ns.map D.int)) (.int k) = .ok (.int (ns.getD k.toNat 0)) := by
  unfold ixD
  simp only
  rw [atI_int h0 h]
/-! places of a written row -/
theorem ix0_lst (a : D) (l : List D) : ixD (.lst (a :: l)) (.int 0) = .ok a := ixD_lst (by decide) rfl
theorem ix0_tup (a : D) (l : List D) : ixD (.tup (a :: l)) (.int 0) = .ok a := ixD_tup (by decide) rfl
theorem ix1_lst (a b : D) (l : List D) : ixD (.lst (a :: b :: l)) (.int 1) = .ok b := ixD_lst (by decide) rfl
theorem ix1_tup (a b : D) (l : List D) : ixD (.tup (a :: b :: l)) (.int 1) = .ok b := ixD_tup (by decide) rfl
theorem ix2_lst (a b c : D) (l : List D) : ixD (.lst (a :: b :: c :: l)) (.int 2) = .ok c := ixD_lst (by decide) rfl
theorem ix2_tup (a b c : D) (l : List D) : ixD (.tup (a :: b :: c :: l)) (.int 2) = .ok c := ixD_tup (by decide) rfl
theorem ix3_lst (a b c d : D) (l : List D) : ixD (.lst (a :: b :: c :: d :: l)) (.int 3) = .ok d := ixD_lst (by decide) rfl
theorem ix3_tup (a b c d : D) (l : List D) : ixD (.tup (a :: b :: c :: d :: l)) (.int 3) = .ok d := ixD_tup (by decide) rfl
theorem ix4_lst (a b c d e : D) (l : List D) : ixD (.lst (a :: b :: c :: d :: e :: l)) (.int 4) = .ok e := ixD_lst (by decide) rfl
theorem ix4_tup (a b c d e : D) (l : List D) : ixD (.tup (a :: b :: c :: d :: e :: l)) (.int 4) = .ok e := ixD_tup (by decide) rfl
theorem ix5_lst (a b c d e f : D) (l : List D) : ixD (.lst (a :: b :: c :: d :: e :: f :: l)) (.int 5) = .ok f := ixD_lst (by decide) rfl
theorem ix5_tup (a b c d e f : D) (l : List D) : ixD (.tup (a :: b :: c :: d :: e :: f :: l)) (.int 5) = .ok f := ixD_tup (by decide) rfl
/-! equality of like data -/
inductive Fl : Nat → D → Prop where
  | non {n : Nat} : Fl n .non
  | bl {n : Nat} (b : Bool) : Fl n (.bl b)
  | int {n : Nat} (i : Int) : Fl n (.int i)
  | str {n : Nat} (x : Str) (h : PyData.strOk x = true) : Fl n (.str x)
  | lst {n : Nat} {xs : List D} (h : ∀ x ∈ xs, Fl n x) : Fl (n + 1) (.lst xs)
  | tup {n : Nat} {xs : List D} (h : ∀ x ∈ xs, Fl n x) : Fl (n + 1) (.tup xs)
def FlP (n : Nat) (p : PyData) : Prop := p.canLay0 = true ∧ p.depth ≤ n ∧ PyData.eqv p p = true
theorem flPs {n : Nat} : ∀ {xs : List D}, (∀ x ∈ xs, FlP n (pyD x)) → PyData.canLayAll0 (pyDs xs) = true ∧ PyData.depthAll (pyDs xs) ≤ n ∧ PyData.eqvAll (pyDs xs) (pyDs xs) = true
  | [], _ => ⟨by simp only [pyDs, PyData.canLayAll0], by simp only [pyDs, PyData.depthAll]; omega, by simp only [pyDs, PyData.eqvAll]⟩
  | x :: xs, h => by
    obtain ⟨a1, a2, a3⟩ := h x List.mem_cons_self
    obtain ⟨b1, b2, b3⟩ := flPs (xs := xs) fun y hy => h y (List.mem_cons_of_mem _ hy)
    refine ⟨?_, ?_, ?_⟩
    · simp only [pyDs, PyData.canLayAll0, a1, b1, Bool.and_self]
    · simp only [pyDs, PyData.depthAll]; omega
    · simp only [pyDs, PyData.eqvAll, a3, b3, Bool.and_self]
theorem Fl.p {n : Nat} {d : D} (h : Fl n d) : FlP n (pyD d) := by
  induction h with
  | non => exact ⟨by simp only [pyD, PyData.canLay0], by simp only [pyD, PyData.depth]; omega, by simp only [pyD, PyData.eqv]⟩
  | bl b => exact ⟨by simp only [pyD, PyData.canLay0], by simp only [pyD, PyData.depth]; omega, by simp only [pyD, PyData.eqv]; exact beq_self_eq_true b⟩
  | int i => exact ⟨by simp only [pyD, PyData.canLay0], by simp only [pyD, PyData.depth]; omega, by simp only [pyD, PyData.eqv]; exact beq_self_eq_true i⟩
  | str x h => exact ⟨by simp only [pyD, PyData.canLay0]; exact h, by simp only [pyD, PyData.depth]; omega, by simp only [pyD, PyData.eqv]; first | exact beq_self_eq_true x | simp⟩
  | lst _ ih =>
    obtain ⟨b1, b2, b3⟩ := flPs ih
    exact ⟨by simp only [pyD, PyData.canLay0]; exact b1, by simp only [pyD, PyData.depth]; omega, by simp only [pyD, PyData.eqv]; exact b3⟩
  | tup _ ih =>
    obtain ⟨b1, b2, b3⟩ := flPs ih
    exact ⟨by simp only [pyD, PyData.canLay0]; exact b1, by simp only [pyD, PyData.depth]; omega, by simp only [pyD, PyData.eqv]; exact b3⟩
theorem Fl.shaped {n : Nat} {d : D} (h : Fl n d) (hn : n ≤ 64) : SeqAt.shaped (pyD d) = true := by
  obtain ⟨a1, a2, _⟩ := h.p
  show ((pyD d).canLay0 && decide ((pyD d).depth ≤ 64)) = true
  rw [a1, decide_eq_true (Nat.le_trans a2 hn)]
  rfl
theorem eqD_self {d : D} {n : Nat} (h : Fl n d) (hn : n ≤ 64) : eqD d d = .ok (.bl true) := by
  unfold eqD
  rw [if_pos ⟨h.shaped hn, h.shaped hn⟩, show eqB d d = true from h.p.2.2]
theorem neD_self {d : D} {n : Nat} (h : Fl n d) (hn : n ≤ 64) : neD d d = .ok (.bl false) := by
  unfold neD
  rw [if_pos ⟨h.shaped hn, h.shaped hn⟩, show eqB d d = true from h.p.2.2]
  rfl
theorem fl_ints {n : Nat} (ns : List Int) : ∀ x ∈ ns.map D.int, Fl n x := fun x hx => by
  obtain ⟨i, _, h⟩ := List.mem_map.mp hx
  subst h
  exact .int i
theorem fl_pair {n : Nat} (a b : Int) : Fl (n + 1) (.tup [.int a, .int b]) := .tup (fl_ints [a, b])
theorem eqD_pair (a b : Int) : eqD (.tup [.int a, .int b]) (.tup [.int a, .int b]) = .ok (.bl true) := eqD_self (n := 1) (fl_pair a b) (by decide)
theorem neD_pair (a b : Int) : neD (.tup [.int a, .int b]) (.tup [.int a, .int b]) = .ok (.bl false) := neD_self (n := 1) (fl_pair a b) (by decide)
theorem addD_int (i j : Int) : addD (.int i) (.int j) = .ok (.int (i + j)) := rfl
theorem subD_int (i j : Int) : subD (.int i) (.int j) = .ok (.int (i - j)) := rfl
theorem ltD_int (i j : Int) : ltD (.int i) (.int j) = .ok (.bl (decide (i < j))) := rfl
theorem leD_int (i j : Int) : leD (.int i) (.int j) = .ok (.bl (decide (i ≤ j))) := rfl
theorem gtD_int (i j : Int) : gtD (.int i) (.int j) = .ok (.bl (decide (j < i))) := rfl
theorem geD_int (i j : Int) : geD (.int i) (.int j) = .ok (.bl (decide (j ≤ i))) := rfl
theorem negD_int (i : Int) : negD (.int i) = .ok (.int (-i)) := rfl
theorem lenD_lst (xs : List D) : lenD [.lst xs] = .ok (.int xs.length) := rfl
theorem lenD_tup (xs : List D) : lenD [.tup xs] = .ok (.int xs.length) := rfl
theorem absD_int (i : Int) : absD [.int i] = .ok (.int (if i < 0 then -i else i)) := rfl
theorem len_2 (a b : D) : (([a, b] : List D).length : Int) = 2 := rfl
theorem len_1 (a : D) : (([a] : List D).length : Int) = 1 := rfl
theorem len_3 (a b c : D) : (([a, b, c] : List D).length : Int) = 3 := rfl
theorem len_0 : ((([] : List D)).length : Int) = 0 := rfl
def chK (k : D → R D) (r : R D) : D → R D
  | .bl true => r.bind k
  | .bl false => .ok (.bl false)
  | _ => .st
theorem chD_eq (gd gd' : D → D → R D) (f g h : Env → R D) (ρ : Env) : chD gd gd' f g h ρ = (f ρ).bind fun x => (g ρ).bind fun y => (gd x y).bind (chK (gd' y) (h ρ)) := by
  unfold chD
  have e : ∀ y, (fun z : D => match z with | .bl true => (h ρ).bind fun w => gd' y w | .bl false => .ok (.bl false) | _ => .st) = chK (gd' y) (h ρ) := fun y => by
    funext z
    unfold chK
    rfl
  rfl
theorem chK_bl (k : D → R D) (r : R D) (p : Bool) : chK k r (.bl p) = if p = true then r.bind k else .ok (.bl false) := by cases p <;> rfl
theorem ite_bl (P : Prop) [Decidable P] (q : Bool) : (if P then R.ok (D.bl q) else R.ok (D.bl false)) = R.ok (D.bl (decide P && q)) := by
  by_cases h : P
  · rw [if_pos h, decide_eq_true h]; rfl
  · rw [if_neg h, decide_eq_false h]; rfl
theorem eqD_bl (b : Bool) : eqD (.bl b) (.bl b) = .ok (.bl true) := eqD_self (n := 0) (.bl b) (by decide)
theorem maxD_int (i j : Int) : maxD [.int i, .int j] = .ok (.int (maxI i j)) := rfl
theorem minD_int (i j : Int) : minD [.int i, .int j] = .ok (.int (minI i j)) := rfl
theorem maxD_l2 (i j : Int) : maxD [.lst [.int i, .int j]] = .ok (.int (maxI i j)) := rfl
theorem minD_l2 (i j : Int) : minD [.lst [.int i, .int j]] = .ok (.int (minI i j)) := rfl
/-! rows of ints -/
theorem listD_ints (ns : List Int) : listD [.lst (ns.map D.int)] = .ok (.lst (ns.map D.int)) := by
  unfold listD; simp only; rw [if_pos (immDs_ints ns)]
theorem ixN_lt {n : Nat} {k : Int} (h0 : 0 ≤ k) (h : k < n) : ixN n k = some k.toNat := by unfold ixN; rw [if_pos h0, if_pos h]
theorem setS_ints {i : Nat} {fk fe : Env → R D} {ρ : Env} {ns : List Int} {k v : Int} (he : fe ρ = .ok (.int v)) (hρ : ρ[i]? = some (some (.lst (ns.map D.int)))) (hk : fk ρ = .ok (.int k)) (h0 : 0 ≤ k) (h : k < ns.length) :
    setS i fk fe ρ = .nx (ρ.set i (some (.lst ((ns.set k.toNat v).map D.int)))) := by
  unfold setS
  rw [he]
  simp only [bindS_ok]
  rw [hρ]
  simp only
  rw [hk]
  simp only [bindS_ok]
  rw [ixN_lt h0 (by rw [List.length_map]; exact h)]
  simp only
  rw [List.map_set]
theorem appS_ints {i : Nat} {f : Env → R D} {ρ : Env} {ns : List Int} {v : Int} (he : f ρ = .ok (.int v)) (hρ : ρ[i]? = some (some (.lst (ns.map D.int)))) (h : ns.length < 16000000) :
    appS i f ρ = .nx (ρ.set i (some (.lst ((ns ++ [v]).map D.int)))) := by
  unfold appS
  rw [hρ]
  simp only
  rw [he]
  simp only [bindS_ok]
  rw [if_pos (by rw [sizeLine_eq, List.length_map]; omega), List.map_append]
  rfl
theorem rangeSize_spec {i j c : Int} (hc : 0 < c) : (∀ t : Nat, t < (Builtin.Range.rangeSize i j c).toNat → i + (t : Int) * c < j) ∧ j ≤ i + ((Builtin.Range.rangeSize i j c).toNat : Int) * c := by
  unfold Builtin.Range.rangeSize
  rw [if_pos hc]
  split
  · rename_i h
    have h1 := Int.mul_ediv_self_le (x := j - i - 1) (k := c) (by omega)
    have h2 := Int.lt_mul_ediv_self_add (x := j - i - 1) (k := c) hc
    have h3 := Int.ediv_nonneg (a := j - i - 1) (b := c) (by omega) (by omega)
    generalize (j - i - 1) / c = q at *
    rw [Int.mul_comm] at h1 h2
    constructor
    · intro t ht
      have := Int.mul_le_mul_of_nonneg_right (show (t : Int) ≤ q by omega) (show 0 ≤ c by omega)
      omega
    · rw [Int.toNat_of_nonneg (by omega), Int.add_mul, Int.one_mul]
      omega
  · rename_i h
    constructor
    · intro t ht
      exact absurd ht (by simp)
    · simp only [Int.toNat_zero]
      omega
theorem rngC_at {lo c : Int} {n i : Nat} {d : D} (h : (rngC lo c n)[i]? = some d) : i < n ∧ d = .int (lo + (i : Int) * c) := by
  have h1 := (List.getElem?_eq_some_iff.mp h).1
  rw [rngC_length] at h1
  refine ⟨h1, ?_⟩
  unfold rngC at h
  rw [List.getElem?_map, List.getElem?_range h1] at h
  exact (Option.some.inj h).symm
theorem rngL_at {lo : Int} {n i : Nat} {d : D} (h : (rngL lo n)[i]? = some d) : i < n ∧ d = .int (lo + (i : Int)) := by
  have h1 := (List.getElem?_eq_some_iff.mp h).1
  rw [rngL_length] at h1
  refine ⟨h1, ?_⟩
  unfold rngL at h
  rw [List.getElem?_map, List.getElem?_range h1] at h
  exact (Option.some.inj h).symm
/-- a loop by its turns -/
theorem forL_go {tf : D → Env → Option Env} {b : Env → Sr} {ds : List D} {ρ : Env} (I : Nat → Env → Prop) (h : I 0 ρ)
    (k : ∀ i d, ds[i]? = some d → ∀ ρ, I i ρ → ∃ ρ1, tf d ρ = some ρ1 ∧ Go (I (i + 1)) (b ρ1)) : ∃ ρ', forL tf b ds ρ = .nx ρ' ∧ I ds.length ρ' := by
  refine forL_i (tf := tf) (b := b) (ds := ds) I h fun i d ρ hd hi => ?_
  obtain ⟨ρ1, e1, e2⟩ := k i d hd ρ hi
  cases hb : b ρ1 with
  | nx ρ2 => rw [hb] at e2; exact ⟨ρ1, ρ2, e1, .inl hb, e2⟩
  | ct ρ2 => rw [hb] at e2; exact ⟨ρ1, ρ2, e1, .inr hb, e2⟩
  | st => rw [hb] at e2; exact e2.elim
  | rt d => rw [hb] at e2; exact e2.elim
  | bk ρ2 => rw [hb] at e2; exact e2.elim
  | ex c => rw [hb] at e2; exact e2.elim
theorem body_forI {tf : D → Env → Option Env} {b q : Env → Sr} {ds : List D} {ρ : Env} {x : R D} (I : Nat → Env → Prop) (h : I 0 ρ)
    (k : ∀ i d, ds[i]? = some d → ∀ ρ, I i ρ → ∃ ρ1, tf d ρ = some ρ1 ∧ Go (I (i + 1)) (b ρ1)) (fin : ∀ ρ, I ds.length ρ → bodyR (q ρ) = x) : bodyR ((forL tf b ds ρ).seq q) = x := by
  obtain ⟨ρ', h1, h2⟩ := forL_go I h k
  rw [h1]
  exact fin ρ' h2
theorem Go.seq {J : Env → Prop} {s : Sr} {q : Env → Sr} {I : Env → Prop} (h : ∃ ρ, s = .nx ρ ∧ J ρ) (k : ∀ ρ, J ρ → Go I (q ρ)) : Go I (s.seq q) := by
  obtain ⟨ρ, h1, h2⟩ := h
  rw [h1]
  exact k ρ h2
theorem Go.mono {I J : Env → Prop} {s : Sr} (h : Go I s) (k : ∀ ρ, I ρ → J ρ) : Go J s := by
  cases s with
  | nx ρ => exact k ρ h
  | ct ρ => exact k ρ h
  | st => exact h
  | rt d => exact h
  | bk ρ => exact h
  | ex c => exact h
theorem maxD_ints (n : Int) (ns : List Int) : maxD [.lst ((n :: ns).map D.int)] = .ok (.int (maxL (n :: ns))) := by
  unfold maxD
  simp only
  rw [intsO_map]
theorem minD_ints (n : Int) (ns : List Int) : minD [.lst ((n :: ns).map D.int)] = .ok (.int (minL (n :: ns))) := by
  unfold minD
  simp only
  rw [intsO_map]
theorem foldl_maxI : ∀ (r : List Int) (x : Int), x ≤ r.foldl maxI x ∧ (∀ y ∈ r, y ≤ r.foldl maxI x) ∧ (r.foldl maxI x = x ∨ r.foldl maxI x ∈ r)
  | [], x => ⟨Int.le_refl _, (fun y h => nomatch h), .inl rfl⟩
  | y :: r, x => by
    obtain ⟨a1, a2, a3⟩ := foldl_maxI r (maxI x y)
    have h1 : x ≤ maxI x y ∧ y ≤ maxI x y ∧ (maxI x y = x ∨ maxI x y = y) := by
      unfold maxI
      split <;> omega
    rw [List.foldl_cons]
    refine ⟨by omega, fun z hz => ?_, ?_⟩
    · rcases List.mem_cons.mp hz with e | h
      · subst e; omega
      · exact a2 z h
    · rcases a3 with e | h
      · rcases h1.2.2 with g | g
        · exact .inl (e.trans g)
        · exact .inr (by rw [e, g]; exact List.mem_cons_self)
      · exact .inr (List.mem_cons_of_mem _ h)
theorem maxL_spec {ns : List Int} (h : ns ≠ []) : maxL ns ∈ ns ∧ ∀ y ∈ ns, y ≤ maxL ns := by
  cases ns with
  | nil => exact absurd rfl h
  | cons n ns =>
    obtain ⟨a1, a2, a3⟩ := foldl_maxI ns n
    refine ⟨?_, fun y hy => ?_⟩
    · show ns.foldl maxI n ∈ n :: ns
      rcases a3 with e | g
      · rw [e]; exact List.mem_cons_self
      · exact List.mem_cons_of_mem _ g
    · show y ≤ ns.foldl maxI n
      rcases List.mem_cons.mp hy with e | g
      · subst e; exact a1
      · exact a2 y g
theorem bls_map : ∀ bs : List Bool, bls (bs.map D.bl) = some bs
  | [] => rfl
  | b :: bs => by rw [List.map_cons, bls, bls_map bs]; rfl
theorem anyD_bls (bs : List Bool) : anyD [.lst (bs.map D.bl)] = .ok (.bl (bs.any id)) := by
  unfold anyD
  simp only
  rw [bls_map]
theorem allD_bls (bs : List Bool) : allD [.lst (bs.map D.bl)] = .ok (.bl (bs.all id)) := by
  unfold allD
  simp only
  rw [bls_map]
/-! rows lifted in place, of anything: at the places of half h each next thing is made of it and its neighbours at the stride -/
section lg
variable {α : Type}
def lgNew (z : α) (F : α → α → α → α) (xs : List α) (S p : Nat) : α :=
  if p < S ∧ xs.length ≤ p + S then xs.getD p z else
    F (xs.getD p z) (xs.getD (if p < S then p + S else p - S) z) (xs.getD (if xs.length ≤ p + S then p - S else p + S) z)
def lgAt (z : α) (F : α → α → α → α) (xs : List α) (S h b i : Nat) : α :=
  if i % S = 0 ∧ (i / S) % 2 = h ∧ i < b then lgNew z F xs S i else xs.getD i z
def lgB (z : α) (F : α → α → α → α) (xs : List α) (S h b : Nat) : List α := (List.range xs.length).map (lgAt z F xs S h b)
def lg (z : α) (F : α → α → α → α) (xs : List α) (S h : Nat) : List α := lgB z F xs S h xs.length
variable {z : α} {F : α → α → α → α} {xs : List α} {S h b t : Nat}
theorem lgB_length : (lgB z F xs S h b).length = xs.length := by simp [lgB]
theorem lg_length : (lg z F xs S h).length = xs.length := lgB_length
theorem lgB_getD {i : Nat} (hi : i < xs.length) : (lgB z F xs S h b).getD i z = lgAt z F xs S h b i := by
  unfold lgB
  rw [List.getD_eq_getElem?_getD, List.getElem?_map, List.getElem?_range hi]
  rfl
theorem lg_none {i : Nat} (hi : xs.length ≤ i) : xs.getD i z = z := by
  rw [List.getD_eq_getElem?_getD, List.getElem?_eq_none hi]
  rfl
theorem lgB_none {i : Nat} (k : i % S = 0 ∧ (i / S) % 2 = h ∧ i < b → False) : (lgB z F xs S h b).getD i z = xs.getD i z := by
  by_cases hi : i < xs.length
  · rw [lgB_getD hi]
    unfold lgAt
    rw [if_neg k]
  · rw [lg_none (by rw [lgB_length]; omega), lg_none (by omega)]
theorem lg_ext {xs ys : List α} (z : α) (hl : xs.length = ys.length) (k : ∀ i, i < xs.length → xs.getD i z = ys.getD i z) : xs = ys := by
  refine List.ext_getElem hl fun i h1 h2 => ?_
  have := k i h1
  rw [List.getD_eq_getElem?_getD, List.getD_eq_getElem?_getD, List.getElem?_eq_getElem h1, List.getElem?_eq_getElem h2] at this
  exact this
theorem lgB_start (hS : 0 < S) (hb : b ≤ h * S) (hh : h ≤ 1) : lgB z F xs S h b = xs := by
  refine lg_ext z lgB_length fun i hi => ?_
  rw [lgB_none]
  rintro ⟨h1, h2, h3⟩
  have h4 := Nat.div_add_mod i S
  have h5 : i / S < h := Nat.lt_of_mul_lt_mul_right (a := S) (by rw [Nat.mul_comm]; omega)
  generalize i / S = q at h2 h5
  omega
theorem lgB_end (hb : xs.length ≤ b) : lgB z F xs S h b = lg z F xs S h := by
  refine lg_ext z (by rw [lgB_length, lg_length]) fun i hi => ?_
  rw [lgB_length] at hi
  unfold lg
  rw [lgB_getD hi, lgB_getD hi]
  unfold lgAt
  simp only [hi, show i < b by omega, and_true]
theorem lg_hit (hS : 0 < S) (hh : h ≤ 1) : ((h + 2 * t) * S) % S = 0 ∧ (((h + 2 * t) * S) / S) % 2 = h := by
  rw [Nat.mul_mod_left, Nat.mul_div_cancel _ hS]
  exact ⟨rfl, by omega⟩
theorem lg_right (hS : 0 < S) (hh : h ≤ 1) : (((h + 2 * t) * S + S) / S) % 2 ≠ h := by
  rw [← Nat.succ_mul, Nat.mul_div_cancel _ hS]
  omega
theorem lg_left (hS : 0 < S) (hh : h ≤ 1) (hp : S ≤ (h + 2 * t) * S) : (((h + 2 * t) * S - S) / S) % 2 ≠ h := by
  have h1 : 1 ≤ h + 2 * t := by
    cases hk : h + 2 * t with
    | zero => rw [hk, Nat.zero_mul] at hp; omega
    | succ k => omega
  rw [show (h + 2 * t) * S - S = (h + 2 * t - 1) * S from (Nat.sub_one_mul _ _).symm, Nat.mul_div_cancel _ hS]
  omega
/-- at the next place the half lifted row still tells what the row told -/
theorem lg_step_new (hS : 0 < S) (hh : h ≤ 1) : lgNew z F (lgB z F xs S h ((h + 2 * t) * S)) S ((h + 2 * t) * S) = lgNew z F xs S ((h + 2 * t) * S) := by
  unfold lgNew
  rw [lgB_length]
  have e0 : (lgB z F xs S h ((h + 2 * t) * S)).getD ((h + 2 * t) * S) z = xs.getD ((h + 2 * t) * S) z := lgB_none fun k => Nat.lt_irrefl _ k.2.2
  rw [e0]
  split
  · rfl
  · rename_i hn
    have e1 : (lgB z F xs S h ((h + 2 * t) * S)).getD (if (h + 2 * t) * S < S then (h + 2 * t) * S + S else (h + 2 * t) * S - S) z = xs.getD (if (h + 2 * t) * S < S then (h + 2 * t) * S + S else (h + 2 * t) * S - S) z := by
      split
      · exact lgB_none fun ⟨_, k, _⟩ => lg_right hS hh k
      · exact lgB_none fun ⟨_, k, _⟩ => lg_left hS hh (by omega) k
    have e2 : (lgB z F xs S h ((h + 2 * t) * S)).getD (if xs.length ≤ (h + 2 * t) * S + S then (h + 2 * t) * S - S else (h + 2 * t) * S + S) z = xs.getD (if xs.length ≤ (h + 2 * t) * S + S then (h + 2 * t) * S - S else (h + 2 * t) * S + S) z := by
      split
      · exact lgB_none fun ⟨_, k, _⟩ => lg_left hS hh (by omega) k
      · exact lgB_none fun ⟨_, k, _⟩ => lg_right hS hh k
    rw [e1, e2]
theorem lg_step_set (hS : 0 < S) (hh : h ≤ 1) (hp : (h + 2 * t) * S < xs.length) :
    (lgB z F xs S h ((h + 2 * t) * S)).set ((h + 2 * t) * S) (lgNew z F xs S ((h + 2 * t) * S)) = lgB z F xs S h ((h + 2 * (t + 1)) * S) := by
  have e : (h + 2 * (t + 1)) * S = (h + 2 * t) * S + 2 * S := by rw [← Nat.add_mul]; congr 1
  refine lg_ext z (by rw [List.length_set, lgB_length, lgB_length]) fun i hi => ?_
  rw [List.length_set, lgB_length] at hi
  rw [List.getD_eq_getElem?_getD, List.getElem?_set]
  by_cases hq : (h + 2 * t) * S = i
  · rw [if_pos hq, if_pos (by rw [lgB_length]; omega), lgB_getD hi]
    unfold lgAt
    have := lg_hit (t := t) hS hh
    rw [hq] at this
    rw [if_pos ⟨this.1, this.2, by rw [e]; omega⟩, hq]
    rfl
  · rw [if_neg hq, ← List.getD_eq_getElem?_getD, lgB_getD hi, lgB_getD hi]
    unfold lgAt
    by_cases h1 : i % S = 0 ∧ (i / S) % 2 = h
    · have h4 := Nat.div_add_mod i S
      rw [h1.1, Nat.add_zero, Nat.mul_comm] at h4
      by_cases h2 : i < (h + 2 * t) * S
      · rw [if_pos ⟨h1.1, h1.2, h2⟩, if_pos ⟨h1.1, h1.2, by rw [e]; omega⟩]
      · rw [if_neg (fun k => h2 k.2.2), if_neg]
        rintro ⟨_, _, h3⟩
        have h5 : i / S < h + 2 * (t + 1) := Nat.lt_of_mul_lt_mul_right (a := S) (by omega)
        have h6 : ¬ i / S < h + 2 * t := fun h7 => h2 (by
          have := Nat.mul_lt_mul_of_pos_right h7 hS
          omega)
        have h7 : i / S = h + 2 * t := by omega
        rw [h7] at h4
        exact hq h4
    · rw [if_neg (fun k => h1 ⟨k.1, k.2.1⟩), if_neg (fun k => h1 ⟨k.1, k.2.1⟩)]
theorem lg_short (hl : xs.length ≤ S) : lg z F xs S h = xs := by
  refine lg_ext z lg_length fun i hi => ?_
  rw [lg_length] at hi
  unfold lg
  rw [lgB_getD hi]
  unfold lgAt
  split
  · unfold lgNew
    rw [if_pos ⟨by omega, by omega⟩]
  · rfl
def lgParts (z : α) (xs : List α) (S P : Nat) : List α := (List.range P).map fun k => xs.getD (k * S) z
theorem lgParts_length {P : Nat} : (lgParts z xs S P).length = P := by simp [lgParts]
theorem lgParts_getD {P k : Nat} (hk : k < P) : (lgParts z xs S P).getD k z = xs.getD (k * S) z := by
  unfold lgParts
  rw [List.getD_eq_getElem?_getD, List.getElem?_map, List.getElem?_range hk]
  rfl
theorem lgNew_k {P k : Nat} (hS : 0 < S) (hk : k < P) (hP : 1 < P) (h1 : ∀ t, t < P → t * S < xs.length) (h2 : xs.length ≤ P * S) :
    lgNew z F xs S (k * S) = F ((lgParts z xs S P).getD k z) ((lgParts z xs S P).getD (if k = 0 then 1 else k - 1) z) (if k + 1 < P then (lgParts z xs S P).getD (k + 1) z else (lgParts z xs S P).getD (if k = 0 then 1 else k - 1) z) := by
  have e1 : k * S < S ↔ k = 0 := ⟨fun h => by
    cases k with
    | zero => rfl
    | succ j => rw [Nat.succ_mul] at h; omega, fun h => by rw [h, Nat.zero_mul]; exact hS⟩
  have e2 : k * S + S = (k + 1) * S := (Nat.succ_mul k S).symm
  have e3 : xs.length ≤ k * S + S ↔ ¬ k + 1 < P := ⟨fun h h' => by have := h1 _ h'; omega, fun h => by
    have := Nat.mul_le_mul_right S (show P ≤ k + 1 by omega)
    omega⟩
  have e4 : k * S - S = (k - 1) * S := (Nat.sub_one_mul k S).symm
  unfold lgNew
  rw [e2, e4] at *
  rw [lgParts_getD hk]
  by_cases q1 : k = 0
  · have q2 : k + 1 < P := by omega
    rw [if_neg (fun z => e3.mp z.2 q2), if_pos (e1.mpr q1), if_neg (fun z => e3.mp z q2), if_pos q1, if_pos q2, lgParts_getD q2, lgParts_getD hP, q1]
  · rw [if_neg (fun z => q1 (e1.mp z.1)), if_neg (fun z => q1 (e1.mp z)), if_neg q1, lgParts_getD (show k - 1 < P by omega)]
    by_cases q2 : k + 1 < P
    · rw [if_neg (fun z => e3.mp z q2), if_pos q2, lgParts_getD q2]
    · rw [if_pos (e3.mpr q2), if_neg q2]
end lg
theorem body_forE {α : Type} {tf : D → Env → Option Env} {b q : Env → Sr} {ds : List D} {ρ : Env} {x : α → R D} {P : α → Prop} (I : Nat → Env → Prop) (h : I 0 ρ)
    (k : ∀ i d, ds[i]? = some d → ∀ ρ, I i ρ → ∃ ρ1, tf d ρ = some ρ1 ∧ Go (I (i + 1)) (b ρ1)) (fin : ∀ ρ, I ds.length ρ → ∃ a, bodyR (q ρ) = x a ∧ P a) : ∃ a, bodyR ((forL tf b ds ρ).seq q) = x a ∧ P a := by
  obtain ⟨ρ', h1, h2⟩ := forL_go I h k
  rw [h1]
  exact fin ρ' h2
theorem neD_str (x : Str) (h : PyData.strOk x = true) : neD (.str x) (.str x) = .ok (.bl false) := neD_self (n := 0) (.str x h) (by decide)
theorem eqD_str (x : Str) (h : PyData.strOk x = true) : eqD (.str x) (.str x) = .ok (.bl true) := eqD_self (n := 0) (.str x h) (by decide)
theorem eqD_ofFl {d e : D} {n : Nat} (h : Fl n d) (k : Fl n e) (hn : n ≤ 64) : eqD d e = .ok (.bl (eqB d e)) := by
  unfold eqD
  rw [if_pos ⟨h.shaped hn, k.shaped hn⟩]
theorem neD_ofFl {d e : D} {n : Nat} (h : Fl n d) (k : Fl n e) (hn : n ≤ 64) : neD d e = .ok (.bl (!eqB d e)) := by
  unfold neD
  rw [if_pos ⟨h.shaped hn, k.shaped hn⟩]
theorem eqB_lst_nil (x : D) (xs : List D) : eqB (.lst (x :: xs)) (.lst []) = false := by
  unfold eqB
  simp only [pyD, pyDs, PyData.eqv, PyData.eqvAll]
theorem eqB_nil : eqB (.lst []) (.lst []) = true := by
  unfold eqB
  simp only [pyD, pyDs, PyData.eqv, PyData.eqvAll]
theorem unpS_at {is : List Nat} {f : Env → R D} {ρ : Env} {ds : List D} (h : f ρ = .ok (.tup ds)) (hl : ds.length = is.length) : unpS is f ρ = .nx (putAll is ds ρ) := by
  unfold unpS
  rw [h, R.bind_ok]
  unfold unpR
  simp only
  rw [if_pos hl]
  rfl
end Vs

namespace Lw
open PySem PySem.Spec PyProof.Rows L2 Vs

def topS (i : Nat) : Stmt := PySem.Challenge.pw_liftwave_k22_told_plainly.main.body.getD i (.Pass ⟨0, 0, 0, 0⟩)
structure Txt (K : PySem.W.Frag) (mg : Str → Option Value) : Prop where
  b_abs : mg "abs" = none
  b_all : mg "all" = none
  b_any : mg "any" = none
  b_enumerate : mg "enumerate" = none
  b_int : mg "int" = none
  b_isinstance : mg "isinstance" = none
  b_len : mg "len" = none
  b_list : mg "list" = none
  b_max : mg "max" = none
  b_range : mg "range" = none
  b_str : mg "str" = none
/-! part_told -/
abbrev s_part_told : Stmt := topS 1
theorem sc_part_told : FnScope ["some", "lengths", "start", "end", "plane", "sure", "top", "middle", "first", "bits"] ["some", "lengths", "start", "end", "plane", "sure"] (defScope s_part_told) := ⟨rfl, rfl, rfl, by decide +kernel, rfl, by decide +kernel, by decide +kernel⟩
noncomputable def b_part_told (rec : List D → R D) : Vs.Env → Sr := (seqS (asgS 6 (callB maxD (consA (slE (varE 1) (someO (varE 2)) (someO (varE 3))) nilA)))
    (seqS (asgS 7 (op2 fdivD (op2 addD (varE 2) (varE 3)) (cE (.int 2))))
    (seqS (ifS (boolR (op2 gtD (varE 6) (op2 addD (varE 4) (cE (.int 1))))) (seqS (ifS (boolR (op2 eqD (op2 subD (varE 3) (varE 2)) (cE (.int 1)))) (retS (callB strD (consA (op2 andD (op2 shrD (callB absD (consA (op2 ixD (varE 0) (varE 2)) nilA)) (varE 4)) (cE (.int 1))) nilA))) nilS)
    (seqS (asgS 8 (callF rec (consA (varE 0) (consA (varE 1) (consA (varE 2) (consA (varE 7) (consA (varE 4) (consA (cE (.bl false)) nilA))))))))
    (retS (op2 addD (varE 8) (callF rec (consA (varE 0) (consA (varE 1) (consA (varE 7) (consA (varE 3) (consA (varE 4) (consA (cE (.bl false)) nilA))))))))))) nilS)
    (seqS (asgS 9 (cE (.str "")))
    (seqS (ifS (notT (boolR (varE 5))) (asgS 9 (callB strD (consA (callB intD (consA (op2 eqD (varE 6) (op2 addD (varE 4) (cE (.int 1)))) nilA)) nilA))) nilS)
    (seqS (ifS (boolR (op2 leD (varE 6) (varE 4))) (retV 9) nilS)
    (seqS (ifS (boolR (op2 eqD (op2 subD (varE 3) (varE 2)) (cE (.int 1)))) (retS (op2 addD (varE 9) (callB strD (consA (callB intD (consA (op2 ltD (op2 ixD (varE 0) (varE 2)) (cE (.int 0))) nilA)) nilA)))) nilS)
    (seqS (asgS 8 (callF rec (consA (varE 0) (consA (varE 1) (consA (varE 2) (consA (varE 7) (consA (varE 4) (consA (cE (.bl false)) nilA))))))))
    (retS (op2 addD (op2 addD (varE 9) (varE 8)) (callF rec (consA (varE 0) (consA (varE 1) (consA (varE 7) (consA (varE 3) (consA (varE 4) (consA (op2 leD (callB maxD (consA (slE (varE 1) (someO (varE 2)) (someO (varE 7))) nilA)) (varE 4)) nilA)))))))))))))))))
noncomputable def mN_part_told : Nat → List D → R D
  | 0 => fun _ => .st
  | n + 1 => runB 10 (b_part_told (mN_part_told n))
noncomputable def m_part_told : List D → R D := mN_part_told 14
theorem rN_part_told (n : Nat) (x0 x1 x2 x3 x4 x5 : D) : mN_part_told (n + 1) [x0, x1, x2, x3, x4, x5] = bodyR (b_part_told (mN_part_told n) [some x0, some x1, some x2, some x3, some x4, some x5, none, none, none, none]) := rfl
theorem cN_part_told {P : Program} {w : World} {K : PySem.W.Frag} {mg : Str → Option Value} {base : Heap} (T : Txt K mg) (F : Def K mg "part_told" s_part_told) :
    ∀ n : Nat, Cal P w K mg base "part_told" ["some", "lengths", "start", "end", "plane", "sure"] (n + 1) (mN_part_told n)
  | 0 => (cal_mk (k := 0) (own' := []) (N := ["some", "lengths", "start", "end", "plane", "sure", "top", "middle", "first", "bits"]) (b := fun _ => .st) F sc_part_told (by decide) (fun _ _ _ _ _ _ us hl => match us, hl with | [_, _, _, _, _, _], _ => rfl) fun f cdv A outer s H E hr => vss_st).at (by omega)
  | n + 1 => have c_rec := cN_part_told T F n
    (cal_mk (k := n + 1) (own' := []) (N := ["some", "lengths", "start", "end", "plane", "sure", "top", "middle", "first", "bits"]) (b := b_part_told (mN_part_told n)) F sc_part_told (by decide) (fun _ _ _ _ _ _ us hl => match us, hl with | [_, _, _, _, _, _], _ => rfl) fun f cdv A outer s H E hr =>
      (vs_cons (vs_set 6 sc_part_told.nd rfl (by first | exact Or.inl rfl | exact Or.inr rfl) (vg_callB (call_maxA rfl) cb_max nx_max rfl T.b_max (by decide +kernel) (va_cons (ve_sl (ve_var 1 (pv 1)) (vo_some (ve_var 2 (pv 2))) (vo_some (ve_var 3 (pv 3)))) va_nil)))
      (vs_cons (vs_set 7 sc_part_told.nd rfl (by first | exact Or.inl rfl | exact Or.inr rfl) (vg_op op_fdivW d_fdiv nx_fdiv (VG.ve (vg_op op_addA d_add nx_add (ve_var 2 (pv 2)) (ve_var 3 (pv 3)))) (VG.ve vg_int)))
      (vs_cons (vs_if (own' := [7, 6]) (vt_cmp op_gt d_gt nx_gt (ve_var 6 (pv 6)) (VG.ve (vg_op op_addA d_add nx_add (ve_var 4 (pv 4)) (VG.ve vg_int))) (nomark _)) (vs_cons (vs_if (own' := [7, 6]) (vt_cmp (op_eqD hr.units) d_eq nx_eq (VG.ve (vg_op op_sub d_sub nx_sub (ve_var 3 (pv 3)) (ve_var 2 (pv 2)))) (VG.ve vg_int) (nomark _)) (vs_one (vs_ret (vg_callTy call_str_int cb_str nx_str rfl T.b_str (by decide +kernel) (va_cons (VG.ve (vg_op op_and d_and nx_and (VG.ve (vg_op op_shr d_shr nx_shr (VG.ve (vg_callB call_abs cb_abs nx_abs rfl T.b_abs (by decide +kernel) (va_cons (ve_ix (ve_var 0 (pv 0)) (ve_var 2 (pv 2)) (fun _ _ => rfl)) va_nil))) (ve_var 4 (pv 4)))) (VG.ve vg_int))) va_nil)))) vs_nil)
      (vs_cons (vs_set 8 sc_part_told.nd rfl (by first | exact Or.inl rfl | exact Or.inr rfl) (vg_fn c_rec hr (takes_of rfl rfl rfl rfl) rfl (va_cons (ve_var 0 (pv 0)) (va_cons (ve_var 1 (pv 1)) (va_cons (ve_var 2 (pv 2)) (va_cons (ve_var 7 (pv 7)) (va_cons (ve_var 4 (pv 4)) (va_cons (VG.ve vg_bl) va_nil)))))) (len_cons (len_cons (len_cons (len_cons (len_cons (len_cons len_nil)))))) (hk := Nat.le_refl _)))
      (vs_one (vs_ret (vg_op op_addA d_add nx_add (ve_var 8 (pv 8)) (VG.ve (vg_fn c_rec hr (takes_of rfl rfl rfl rfl) rfl (va_cons (ve_var 0 (pv 0)) (va_cons (ve_var 1 (pv 1)) (va_cons (ve_var 7 (pv 7)) (va_cons (ve_var 3 (pv 3)) (va_cons (ve_var 4 (pv 4)) (va_cons (VG.ve vg_bl) va_nil)))))) (len_cons (len_cons (len_cons (len_cons (len_cons (len_cons len_nil)))))) (hk := Nat.le_refl _)))))))) vs_nil)
      (vs_cons (vs_set 9 sc_part_told.nd rfl (by first | exact Or.inl rfl | exact Or.inr rfl) vg_str)
      (vs_cons (vs_if (own' := [9, 9, 7, 6]) (vt_not (vt_val (ve_var 5 (pv 5)))) (vs_one (vs_set 9 sc_part_told.nd rfl (by first | exact Or.inl rfl | exact Or.inr rfl) (vg_callTy call_str_int cb_str nx_str rfl T.b_str (by decide +kernel) (va_cons (VG.ve (vg_callTy call_int1 cb_int nx_int rfl T.b_int (by decide +kernel) (va_cons (VG.ve (vg_cmp (op_eqD hr.units) d_eq nx_eq (ve_var 6 (pv 6)) (VG.ve (vg_op op_addA d_add nx_add (ve_var 4 (pv 4)) (VG.ve vg_int))) (nomark _))) va_nil))) va_nil)))) (VSs.weak (own'' := [9, 9, 7, 6]) vs_nil))
      (vs_cons (vs_if (own' := [9, 9, 7, 6]) (vt_cmp op_le d_le nx_le (ve_var 6 (pv 6)) (ve_var 4 (pv 4)) (nomark _)) (vs_one (vs_retV 9 (pv 9))) vs_nil)
      (vs_cons (vs_if (own' := [9, 9, 7, 6]) (vt_cmp (op_eqD hr.units) d_eq nx_eq (VG.ve (vg_op op_sub d_sub nx_sub (ve_var 3 (pv 3)) (ve_var 2 (pv 2)))) (VG.ve vg_int) (nomark _)) (vs_one (vs_ret (vg_op op_addA d_add nx_add (ve_var 9 (pv 9)) (VG.ve (vg_callTy call_str_int cb_str nx_str rfl T.b_str (by decide +kernel) (va_cons (VG.ve (vg_callTy call_int1 cb_int nx_int rfl T.b_int (by decide +kernel) (va_cons (VG.ve (vg_cmp op_lt d_lt nx_lt (ve_ix (ve_var 0 (pv 0)) (ve_var 2 (pv 2)) (fun _ _ => rfl)) (VG.ve vg_int) (nomark _))) va_nil))) va_nil)))))) vs_nil)
      (vs_cons (vs_set 8 sc_part_told.nd rfl (by first | exact Or.inl rfl | exact Or.inr rfl) (vg_fn c_rec hr (takes_of rfl rfl rfl rfl) rfl (va_cons (ve_var 0 (pv 0)) (va_cons (ve_var 1 (pv 1)) (va_cons (ve_var 2 (pv 2)) (va_cons (ve_var 7 (pv 7)) (va_cons (ve_var 4 (pv 4)) (va_cons (VG.ve vg_bl) va_nil)))))) (len_cons (len_cons (len_cons (len_cons (len_cons (len_cons len_nil)))))) (hk := Nat.le_refl _)))
      (vs_one (vs_ret (vg_op op_addA d_add nx_add (VG.ve (vg_op op_addA d_add nx_add (ve_var 9 (pv 9)) (ve_var 8 (pv 8)))) (VG.ve (vg_fn c_rec hr (takes_of rfl rfl rfl rfl) rfl (va_cons (ve_var 0 (pv 0)) (va_cons (ve_var 1 (pv 1)) (va_cons (ve_var 7 (pv 7)) (va_cons (ve_var 3 (pv 3)) (va_cons (ve_var 4 (pv 4)) (va_cons (VG.ve (vg_cmp op_le d_le nx_le (VG.ve (vg_callB (call_maxA rfl) cb_max nx_max rfl T.b_max (by decide +kernel) (va_cons (ve_sl (ve_var 1 (pv 1)) (vo_some (ve_var 2 (pv 2))) (vo_some (ve_var 7 (pv 7)))) va_nil))) (ve_var 4 (pv 4)) (nomark _))) va_nil)))))) (len_cons (len_cons (len_cons (len_cons (len_cons (len_cons len_nil)))))) (hk := Nat.le_refl _))))))))))))))).at (by omega)
theorem c_part_told {P : Program} {w : World} {K : PySem.W.Frag} {mg : Str → Option Value} {base : Heap} (T : Txt K mg) (F : Def K mg "part_told" s_part_told) :
    Cal P w K mg base "part_told" ["some", "lengths", "start", "end", "plane", "sure"] 15 m_part_told := cN_part_told T F 14
/-! told -/
abbrev s_told : Stmt := topS 2
theorem sc_told : FnScope ["some", "planes", "lengths", "rows", "plane", "number"] ["some", "planes"] (defScope s_told) := ⟨rfl, rfl, rfl, by decide +kernel, rfl, by decide +kernel, by decide +kernel⟩
noncomputable def b_told : Vs.Env → Sr := (seqS (asgS 2 (lcE [5] (itV itemsR (varE 0)) (tgN 5) yesT (bitsE (callB absD (consA (varE 5) nilA)))))
    (seqS (asgS 3 (lstE nilA))
    (seqS (forS (itR rngS (consA (op2 subD (varE 1) (cE (.int 1))) (consA (negE (cE (.int 1))) (consA (negE (cE (.int 1))) nilA)))) (tgN 4) (appS 3 (callF m_part_told (consA (varE 0) (consA (varE 2) (consA (cE (.int 0)) (consA (callB lenD (consA (varE 0) nilA)) (consA (varE 4) (consA (cE (.bl false)) nilA)))))))))
    (retS (m1E joinG (cE (.str "")) (varE 3))))))
noncomputable def m_told : List D → R D := runB 6 b_told
theorem r_told (x0 x1 : D) : m_told [x0, x1] = bodyR (b_told [some x0, some x1, none, none, none, none]) := rfl
theorem c_told {P : Program} {w : World} {K : PySem.W.Frag} {mg : Str → Option Value} {base : Heap} (T : Txt K mg) (F : Def K mg "told" s_told) (c_part_told : Cal P w K mg base "part_told" ["some", "lengths", "start", "end", "plane", "sure"] 15 m_part_told) :
    Cal P w K mg base "told" ["some", "planes"] 16 m_told :=
  cal_mk (k := 15) (own' := []) (N := ["some", "planes", "lengths", "rows", "plane", "number"]) (b := b_told) F sc_told (by decide) (fun _ _ _ _ _ _ us hl => match us, hl with | [_, _], _ => rfl) fun f cdv A outer s H E hr =>
      (vs_cons (vs_setLc 2 (hsw := (sw_true rfl rfl rfl (by decide +kernel))) (hy := rfl) (hyl := rfl) (hc := rfl) (hN := sc_told.nd) (own := [("number", 5)]) (vi_seq (vp_var 0 (pv 0))) (blkOk_by (by kernel_rfl)) (tk_name 5) (fun _ _ _ _ _ => (pg_name (i := 5) sc_told.nd rfl (by first | exact Or.inl rfl | exact Or.inr rfl))) (fun _ _ _ _ _ => vts_nil) (fun _ _ _ _ _ => (vg_bits (VG.ve (vg_callB call_abs cb_abs nx_abs rfl T.b_abs (by decide +kernel) (va_cons (ve_var 5 (pv 5)) va_nil))))))
      (vs_cons (vs_set 3 sc_told.nd rfl (by first | exact Or.inl rfl | exact Or.inr rfl) (vg_lst vb_nil len_nil))
      (vs_cons (vs_for (own := [3, 2]) (passes_of rfl) rfl (vi_rng3 rfl T.b_range (va_cons (VG.ve (vg_op op_sub d_sub nx_sub (ve_var 1 (pv 1)) (VG.ve vg_int))) (va_cons (VG.ve (vg_neg (VG.ve vg_int))) (va_cons (VG.ve (vg_neg (VG.ve vg_int))) va_nil)))) ⟨_, (pg_name (i := 4) sc_told.nd rfl (by first | exact Or.inl rfl | exact Or.inr rfl)), (tk_name 4)⟩ (vs_one (vs_append 3 (ps_expr (pe_bm PySem.F.plainAttrs_list PySem.F.slot_list_append PySem.F.type_list_append mt_append (pv 3) (pa_cons (VG.pe (vg_fn c_part_told hr (takes_of rfl rfl rfl rfl) rfl (va_cons (ve_var 0 (pv 0)) (va_cons (ve_var 2 (pv 2)) (va_cons (VG.ve vg_int) (va_cons (VG.ve (vg_callB call_len cb_len nx_len rfl T.b_len PySem.boot_len (va_cons (ve_var 0 (pv 0)) va_nil))) (va_cons (ve_var 4 (pv 4)) (va_cons (VG.ve vg_bl) va_nil)))))) (len_cons (len_cons (len_cons (len_cons (len_cons (len_cons len_nil)))))))) pa_nil))))))
      (vs_one (vs_ret (vg_m1 PySem.F.slot_str_join PySem.F.type_str_join mt_join md_join mn_join (VG.ve vg_str) (ve_var 3 (pv 3))))))))
/-! _law_cell_at -/
abbrev s_law_cell_at : Stmt := topS 4
theorem sc_law_cell_at : FnScope ["_law_script", "_law_k"] ["_law_script", "_law_k"] (defScope s_law_cell_at) := ⟨rfl, rfl, rfl, by decide +kernel, rfl, by decide +kernel, by decide +kernel⟩
noncomputable def b_law_cell_at : Vs.Env → Sr := (seqS (ifS (boolR (op2 ltD (varE 1) (callB lenD (consA (varE 0) nilA)))) (retS (imm (op2 ixD (varE 0) (varE 1)))) nilS)
    (retS (cE (.int 0))))
noncomputable def m_law_cell_at : List D → R D := runB 2 b_law_cell_at
theorem r_law_cell_at (x0 x1 : D) : m_law_cell_at [x0, x1] = bodyR (b_law_cell_at [some x0, some x1]) := rfl
theorem c_law_cell_at {P : Program} {w : World} {K : PySem.W.Frag} {mg : Str → Option Value} {base : Heap} (T : Txt K mg) (F : Def K mg "_law_cell_at" s_law_cell_at) :
    Cal P w K mg base "_law_cell_at" ["_law_script", "_law_k"] 1 m_law_cell_at :=
  cal_mk (k := 0) (own' := []) (N := ["_law_script", "_law_k"]) (b := b_law_cell_at) F sc_law_cell_at (by decide) (fun _ _ _ _ _ _ us hl => match us, hl with | [_, _], _ => rfl) fun f cdv A outer s H E hr =>
      (vs_cons (vs_if (own' := []) (vt_cmp op_lt d_lt nx_lt (ve_var 1 (pv 1)) (VG.ve (vg_callB call_len cb_len nx_len rfl T.b_len PySem.boot_len (va_cons (ve_var 0 (pv 0)) va_nil))) (nomark _)) (vs_one (vs_ret (VE.vg (ve_ix (ve_var 0 (pv 0)) (ve_var 1 (pv 1)) (fun _ _ => rfl))))) vs_nil)
      (vs_one (vs_ret vg_int)))
/-! _law_some -/
abbrev s_law_some : Stmt := topS 5
theorem sc_law_some : FnScope ["_law_cells", "_law_way", "_law_some_here", "_law_k", "_law_cell", "_law_size"] ["_law_cells", "_law_way"] (defScope s_law_some) := ⟨rfl, rfl, rfl, by decide +kernel, rfl, by decide +kernel, by decide +kernel⟩
noncomputable def b_law_some : Vs.Env → Sr := (seqS (asgS 2 (lstE nilA))
    (seqS (forS (itR enumR (consA (varE 0) nilA)) (tgT 3 4) (seqS (asgS 5 (op2 modD (op2 mulD (callB absD (consA (varE 4) nilA)) (op2 ixD (lstE (consA (cE (.int 1)) (consA (cE (.int 48271)) (consA (cE (.int 69621)) nilA)))) (op2 modD (varE 3) (cE (.int 3))))) (op2 ixD (lstE (consA (cE (.int 40)) (consA (cE (.int 1000)) (consA (cE (.int 4)) (consA (op2 powD (cE (.int 10)) (cE (.int 60))) nilA))))) (varE 1))))
    (seqS (ifS (andT (boolR (op2 eqD (varE 1) (cE (.int 1)))) (boolR (op2 gtD (op2 modD (op2 modD (op2 mulD (op2 addD (varE 4) (varE 3)) (cE (.int 40692))) (cE (.int 2147483399))) (cE (.int 5))) (cE (.int 0))))) (asgS 5 (cE (.int 0))) nilS)
    (seqS (ifS (andT (boolR (op2 eqD (varE 1) (cE (.int 3)))) (boolR (op2 eqD (op2 modD (varE 3) (cE (.int 3))) (cE (.int 1))))) (asgS 5 (op2 modD (op2 mulD (callB absD (consA (varE 4) nilA)) (op2 addD (op2 powD (cE (.int 10)) (cE (.int 45))) (cE (.int 7)))) (op2 powD (cE (.int 10)) (cE (.int 60))))) nilS)
    (seqS (ifS (boolR (op2 eqD (op2 modD (op2 modD (op2 mulD (op2 addD (varE 4) (varE 3)) (cE (.int 16807))) (cE (.int 65537))) (cE (.int 2))) (cE (.int 1)))) (asgS 5 (op2 subD (cE (.int 0)) (varE 5))) nilS)
    (appS 2 (imm (varE 5))))))))
    (seqS (ifS (boolR (op2 eqD (varE 2) (lstE nilA))) (appS 2 (cE (.int 0))) nilS)
    (retV 2))))
noncomputable def m_law_some : List D → R D := runB 6 b_law_some
theorem r_law_some (x0 x1 : D) : m_law_some [x0, x1] = bodyR (b_law_some [some x0, some x1, none, none, none, none]) := rfl
theorem c_law_some {P : Program} {w : World} {K : PySem.W.Frag} {mg : Str → Option Value} {base : Heap} (T : Txt K mg) (F : Def K mg "_law_some" s_law_some) :
    Cal P w K mg base "_law_some" ["_law_cells", "_law_way"] 1 m_law_some :=
  cal_mk (k := 0) (own' := []) (N := ["_law_cells", "_law_way", "_law_some_here", "_law_k", "_law_cell", "_law_size"]) (b := b_law_some) F sc_law_some (by decide) (fun _ _ _ _ _ _ us hl => match us, hl with | [_, _], _ => rfl) fun f cdv A outer s H E hr =>
      (vs_cons (vs_set 2 sc_law_some.nd rfl (by first | exact Or.inl rfl | exact Or.inr rfl) (vg_lst vb_nil len_nil))
      (vs_cons (vs_for (own := [2]) (passes_of rfl) rfl (vi_enum rfl T.b_enumerate (vps_cons (vp_var 0 (pv 0)) vps_nil)) ⟨_, (pg_tup rfl (pgs_cons (pg_name (i := 3) sc_law_some.nd rfl (by first | exact Or.inl rfl | exact Or.inr rfl)) (pgs_cons (pg_name (i := 4) sc_law_some.nd rfl (by first | exact Or.inl rfl | exact Or.inr rfl)) pgs_nil))), (tk_tup 3 4)⟩ (VSs.weak (own'' := [2]) (vs_cons (vs_set 5 sc_law_some.nd rfl (by first | exact Or.inl rfl | exact Or.inr rfl) (vg_op op_mod d_mod nx_mod (VG.ve (vg_op op_mulI d_mul nx_mul (VG.ve (vg_callB call_abs cb_abs nx_abs rfl T.b_abs (by decide +kernel) (va_cons (ve_var 4 (pv 4)) va_nil))) (ve_ix (VG.ve (vg_lst (vb_cons vg_int (vb_cons vg_int (vb_cons vg_int vb_nil))) (len_cons (len_cons (len_cons len_nil))))) (VG.ve (vg_op op_mod d_mod nx_mod (ve_var 3 (pv 3)) (VG.ve vg_int))) (fun _ _ => rfl)))) (ve_ix (VG.ve (vg_lst (vb_cons vg_int (vb_cons vg_int (vb_cons vg_int (vb_cons (vg_op op_powV d_pow nx_pow (VG.ve vg_int) (VG.ve vg_int)) vb_nil)))) (len_cons (len_cons (len_cons (len_cons len_nil)))))) (ve_var 1 (pv 1)) (fun _ _ => rfl))))
      (vs_cons (vs_if (own' := [5, 5, 2]) (VW.vt (vw_and (vt_cmp (op_eqD hr.units) d_eq nx_eq (ve_var 1 (pv 1)) (VG.ve vg_int) (nomark _)) (vw_and1 (vt_cmp op_gt d_gt nx_gt (VG.ve (vg_op op_mod d_mod nx_mod (VG.ve (vg_op op_mod d_mod nx_mod (VG.ve (vg_op op_mulI d_mul nx_mul (VG.ve (vg_op op_addA d_add nx_add (ve_var 4 (pv 4)) (ve_var 3 (pv 3)))) (VG.ve vg_int))) (VG.ve vg_int))) (VG.ve vg_int))) (VG.ve vg_int) (nomark _))))) (vs_one (vs_set 5 sc_law_some.nd rfl (by first | exact Or.inl rfl | exact Or.inr rfl) vg_int)) (VSs.weak (own'' := [5, 5, 2]) vs_nil))
      (vs_cons (vs_if (own' := [5, 5, 5, 2]) (VW.vt (vw_and (vt_cmp (op_eqD hr.units) d_eq nx_eq (ve_var 1 (pv 1)) (VG.ve vg_int) (nomark _)) (vw_and1 (vt_cmp (op_eqD hr.units) d_eq nx_eq (VG.ve (vg_op op_mod d_mod nx_mod (ve_var 3 (pv 3)) (VG.ve vg_int))) (VG.ve vg_int) (nomark _))))) (vs_one (vs_set 5 sc_law_some.nd rfl (by first | exact Or.inl rfl | exact Or.inr rfl) (vg_op op_mod d_mod nx_mod (VG.ve (vg_op op_mulI d_mul nx_mul (VG.ve (vg_callB call_abs cb_abs nx_abs rfl T.b_abs (by decide +kernel) (va_cons (ve_var 4 (pv 4)) va_nil))) (VG.ve (vg_op op_addA d_add nx_add (VG.ve (vg_op op_powV d_pow nx_pow (VG.ve vg_int) (VG.ve vg_int))) (VG.ve vg_int))))) (VG.ve (vg_op op_powV d_pow nx_pow (VG.ve vg_int) (VG.ve vg_int)))))) (VSs.weak (own'' := [5, 5, 5, 2]) vs_nil))
      (vs_cons (vs_if (own' := [5, 5, 5, 5, 2]) (vt_cmp (op_eqD hr.units) d_eq nx_eq (VG.ve (vg_op op_mod d_mod nx_mod (VG.ve (vg_op op_mod d_mod nx_mod (VG.ve (vg_op op_mulI d_mul nx_mul (VG.ve (vg_op op_addA d_add nx_add (ve_var 4 (pv 4)) (ve_var 3 (pv 3)))) (VG.ve vg_int))) (VG.ve vg_int))) (VG.ve vg_int))) (VG.ve vg_int) (nomark _)) (vs_one (vs_set 5 sc_law_some.nd rfl (by first | exact Or.inl rfl | exact Or.inr rfl) (vg_op op_sub d_sub nx_sub (VG.ve vg_int) (ve_var 5 (pv 5))))) (VSs.weak (own'' := [5, 5, 5, 5, 2]) vs_nil))
      (vs_one (vs_append 2 (ps_expr (pe_bm PySem.F.plainAttrs_list PySem.F.slot_list_append PySem.F.type_list_append mt_append (pv 2) (pa_cons (VG.pe (VE.vg (ve_var 5 (pv 5)))) pa_nil)))))))))))
      (vs_cons (vs_if (own' := [2]) (vt_cmp (op_eqD hr.units) d_eq nx_eq (ve_var 2 (pv 2)) (VG.ve (vg_lst vb_nil len_nil)) (nomark _)) (vs_one (vs_append 2 (ps_expr (pe_bm PySem.F.plainAttrs_list PySem.F.slot_list_append PySem.F.type_list_append mt_append (pv 2) (pa_cons (VG.pe vg_int) pa_nil))))) vs_nil)
      (vs_one (vs_retV 2 (pv 2))))))
/-! _law_spread -/
abbrev s_law_spread : Stmt := topS 6
theorem sc_law_spread : FnScope ["_law_some_here", "_law_cell", "_law_row_here", "_law_k", "_law_number", "_law_at"] ["_law_some_here", "_law_cell"] (defScope s_law_spread) := ⟨rfl, rfl, rfl, by decide +kernel, rfl, by decide +kernel, by decide +kernel⟩
noncomputable def b_law_spread : Vs.Env → Sr := (seqS (asgS 2 (op2 repD (lstE (consA (cE (.int 0)) nilA)) (op2 addD (cE (.int 65)) (op2 modD (varE 1) (cE (.int 336))))))
    (seqS (forS (itR enumR (consA (varE 0) nilA)) (tgT 3 4) (seqS (asgS 5 (op2 modD (op2 modD (op2 mulD (op2 addD (op2 addD (varE 4) (op2 mulD (op2 mulD (cE (.int 7)) (varE 3)) (varE 3))) (varE 1)) (cE (.int 48271))) (cE (.int 2147483647))) (callB lenD (consA (varE 2) nilA))))
    (setS 2 (varE 5) (op2 subD (op2 modD (varE 4) (cE (.int 15))) (cE (.int 7))))))
    (retV 2)))
noncomputable def m_law_spread : List D → R D := runB 6 b_law_spread
theorem r_law_spread (x0 x1 : D) : m_law_spread [x0, x1] = bodyR (b_law_spread [some x0, some x1, none, none, none, none]) := rfl
theorem c_law_spread {P : Program} {w : World} {K : PySem.W.Frag} {mg : Str → Option Value} {base : Heap} (T : Txt K mg) (F : Def K mg "_law_spread" s_law_spread) :
    Cal P w K mg base "_law_spread" ["_law_some_here", "_law_cell"] 1 m_law_spread :=
  cal_mk (k := 0) (own' := []) (N := ["_law_some_here", "_law_cell", "_law_row_here", "_law_k", "_law_number", "_law_at"]) (b := b_law_spread) F sc_law_spread (by decide) (fun _ _ _ _ _ _ us hl => match us, hl with | [_, _], _ => rfl) fun f cdv A outer s H E hr =>
      (vs_cons (vs_set 2 sc_law_spread.nd rfl (by first | exact Or.inl rfl | exact Or.inr rfl) (vg_rep (vg_lst (vb_cons vg_int vb_nil) (len_cons len_nil)) (VG.ve (vg_op op_addA d_add nx_add (VG.ve vg_int) (VG.ve (vg_op op_mod d_mod nx_mod (ve_var 1 (pv 1)) (VG.ve vg_int)))))))
      (vs_cons (vs_for (own := [2]) (passes_of rfl) rfl (vi_enum rfl T.b_enumerate (vps_cons (vp_var 0 (pv 0)) vps_nil)) ⟨_, (pg_tup rfl (pgs_cons (pg_name (i := 3) sc_law_spread.nd rfl (by first | exact Or.inl rfl | exact Or.inr rfl)) (pgs_cons (pg_name (i := 4) sc_law_spread.nd rfl (by first | exact Or.inl rfl | exact Or.inr rfl)) pgs_nil))), (tk_tup 3 4)⟩ (VSs.weak (own'' := [2]) (vs_cons (vs_set 5 sc_law_spread.nd rfl (by first | exact Or.inl rfl | exact Or.inr rfl) (vg_op op_mod d_mod nx_mod (VG.ve (vg_op op_mod d_mod nx_mod (VG.ve (vg_op op_mulI d_mul nx_mul (VG.ve (vg_op op_addA d_add nx_add (VG.ve (vg_op op_addA d_add nx_add (ve_var 4 (pv 4)) (VG.ve (vg_op op_mulI d_mul nx_mul (VG.ve (vg_op op_mulI d_mul nx_mul (VG.ve vg_int) (ve_var 3 (pv 3)))) (ve_var 3 (pv 3)))))) (ve_var 1 (pv 1)))) (VG.ve vg_int))) (VG.ve vg_int))) (VG.ve (vg_callB call_len cb_len nx_len rfl T.b_len PySem.boot_len (va_cons (ve_var 2 (pv 2)) va_nil)))))
      (vs_one (vs_setItem 2 (ps_asg (VG.pe (vg_op op_sub d_sub nx_sub (VG.ve (vg_op op_mod d_mod nx_mod (ve_var 4 (pv 4)) (VG.ve vg_int))) (VG.ve vg_int))) (pg_sub (pv 2) (VE.pe (ve_var 5 (pv 5))) set_list)))))))
      (vs_one (vs_retV 2 (pv 2)))))
/-! _law_row -/
abbrev s_law_row : Stmt := topS 7
theorem sc_law_row : FnScope ["_law_some_here", "_law_plane", "_law_power", "_law_parts", "_law_bits", "_law_start", "_law_end", "_law_sure", "_law_middle", "_law_top", "_law_number"] ["_law_some_here", "_law_plane"] (defScope s_law_row) := ⟨rfl, rfl, rfl, by decide +kernel, rfl, by decide +kernel, by decide +kernel⟩
noncomputable def b_law_row : Vs.Env → Sr := (seqS (asgS 2 (op2 shlD (cE (.int 1)) (varE 1)))
    (seqS (asgS 3 (lstE (consA (tupE (consA (cE (.int 0)) (consA (callB lenD (consA (varE 0) nilA)) (consA (cE (.bl false)) nilA)))) nilA)))
    (seqS (asgS 4 (cE (.str "")))
    (seqS (whileS (boolR (op2 neD (varE 3) (lstE nilA))) (seqS (popS 3 noP [5, 6, 7])
    (seqS (asgS 8 (op2 fdivD (op2 addD (varE 5) (varE 6)) (cE (.int 2))))
    (seqS (asgS 9 (callB maxD (consA (lcE [10] (itV itemsR (slG (varE 0) (someO (varE 5)) (someO (varE 6)))) (tgN 10) yesT (callB absD (consA (varE 10) nilA))) nilA)))
    (ifS (andT (boolR (op2 geD (varE 9) (op2 mulD (cE (.int 2)) (varE 2)))) (boolR (op2 eqD (op2 subD (varE 6) (varE 5)) (cE (.int 1))))) (augS 4 addI (callB strD (consA (op2 modD (op2 fdivD (varE 9) (varE 2)) (cE (.int 2))) nilA))) (ifS (boolR (op2 geD (varE 9) (op2 mulD (cE (.int 2)) (varE 2)))) (extP 3 noP (lstE (consA (tupE (consA (imm (varE 8)) (consA (imm (varE 6)) (consA (cE (.bl false)) nilA)))) (consA (tupE (consA (imm (varE 5)) (consA (imm (varE 8)) (consA (cE (.bl false)) nilA)))) nilA)))) (seqS (ifS (notT (boolR (varE 7))) (augS 4 addI (callB strD (consA (callB intD (consA (op2 geD (varE 9) (varE 2)) nilA)) nilA))) nilS)
    (ifS (andT (boolR (op2 geD (varE 9) (varE 2))) (boolR (op2 eqD (op2 subD (varE 6) (varE 5)) (cE (.int 1))))) (augS 4 addI (callB strD (consA (callB intD (consA (op2 ltD (op2 ixD (varE 0) (varE 5)) (cE (.int 0))) nilA)) nilA))) (ifS (boolR (op2 geD (varE 9) (varE 2))) (seqS (asgS 7 (callB allD (consA (lcE [10] (itV itemsR (slG (varE 0) (someO (varE 5)) (someO (varE 8)))) (tgN 10) yesT (op2 ltD (callB absD (consA (varE 10) nilA)) (varE 2))) nilA)))
    (extP 3 noP (lstE (consA (tupE (consA (imm (varE 8)) (consA (imm (varE 6)) (consA (imm (varE 7)) nilA)))) (consA (tupE (consA (imm (varE 5)) (consA (imm (varE 8)) (consA (cE (.bl false)) nilA)))) nilA))))) nilS)))))))))
    (retV 4)))))
noncomputable def m_law_row : List D → R D := runB 11 b_law_row
theorem r_law_row (x0 x1 : D) : m_law_row [x0, x1] = bodyR (b_law_row [some x0, some x1, none, none, none, none, none, none, none, none, none]) := rfl
theorem c_law_row {P : Program} {w : World} {K : PySem.W.Frag} {mg : Str → Option Value} {base : Heap} (T : Txt K mg) (F : Def K mg "_law_row" s_law_row) :
    Cal P w K mg base "_law_row" ["_law_some_here", "_law_plane"] 1 m_law_row :=
  cal_mk (k := 0) (own' := []) (N := ["_law_some_here", "_law_plane", "_law_power", "_law_parts", "_law_bits", "_law_start", "_law_end", "_law_sure", "_law_middle", "_law_top", "_law_number"]) (b := b_law_row) F sc_law_row (by decide) (fun _ _ _ _ _ _ us hl => match us, hl with | [_, _], _ => rfl) fun f cdv A outer s H E hr =>
      (vs_cons (vs_set 2 sc_law_row.nd rfl (by first | exact Or.inl rfl | exact Or.inr rfl) (vg_op op_shlW d_shl nx_shl (VG.ve vg_int) (ve_var 1 (pv 1))))
      (vs_cons (vs_set 3 sc_law_row.nd rfl (by first | exact Or.inl rfl | exact Or.inr rfl) (vg_lst (vb_cons (vg_tup (vb_cons vg_int (vb_cons (vg_callB call_len cb_len nx_len rfl T.b_len PySem.boot_len (va_cons (ve_var 0 (pv 0)) va_nil)) (vb_cons vg_bl vb_nil))) (len_cons (len_cons (len_cons len_nil)))) vb_nil) (len_cons len_nil)))
      (vs_cons (vs_set 4 sc_law_row.nd rfl (by first | exact Or.inl rfl | exact Or.inr rfl) vg_str)
      (vs_cons (vs_while (passes_of rfl) (vt_cmp (op_neD hr.units) d_ne nx_ne (ve_var 3 (pv 3)) (VG.ve (vg_lst vb_nil len_nil)) (nomark _)) (VSs.weak (own'' := [4, 3, 2]) (vs_cons (vs_popT (i := 3) [5, 6, 7] (ps_asg (pe_bm0 PySem.F.plainAttrs_list PySem.F.slot_list_pop PySem.F.type_list_pop mt_pop (VL.pe (vl_var 3 (pv 3)))) (pg_tup rfl (pgs_cons (pg_name (i := 5) sc_law_row.nd rfl (by first | exact Or.inl rfl | exact Or.inr rfl)) (pgs_cons (pg_name (i := 6) sc_law_row.nd rfl (by first | exact Or.inl rfl | exact Or.inr rfl)) (pgs_cons (pg_name (i := 7) sc_law_row.nd rfl (by first | exact Or.inl rfl | exact Or.inr rfl)) pgs_nil))))) rfl)
      (vs_cons (vs_set 8 sc_law_row.nd rfl (by first | exact Or.inl rfl | exact Or.inr rfl) (vg_op op_fdivW d_fdiv nx_fdiv (VG.ve (vg_op op_addA d_add nx_add (ve_var 5 (pv 5)) (ve_var 6 (pv 6)))) (VG.ve vg_int)))
      (vs_cons (vs_set 9 sc_law_row.nd rfl (by first | exact Or.inl rfl | exact Or.inr rfl) (vg_callB (call_maxA rfl) cb_max nx_max rfl T.b_max (by decide +kernel) (va_cons (VG.ve (vg_lc (own := [("_law_number", 10)]) rfl sc_law_row.nd (vi_seq (VG.vp (vg_sl (ve_var 0 (pv 0)) (vo_some (ve_var 5 (pv 5))) (vo_some (ve_var 6 (pv 6)))))) (blkOk_by (by kernel_rfl)) (tk_name 10) (fun _ _ _ _ _ => (pg_name (i := 10) sc_law_row.nd rfl (by first | exact Or.inl rfl | exact Or.inr rfl))) (fun _ _ _ _ _ => vts_nil) (fun _ _ _ _ _ => (vg_callB call_abs cb_abs nx_abs rfl T.b_abs (by decide +kernel) (va_cons (ve_var 10 (pv 10)) va_nil))))) va_nil)))
      (vs_one (vs_if (own' := [4, 9, 8, 7, 6, 5, 4, 3, 2]) (VW.vt (vw_and (vt_cmp op_ge d_ge nx_ge (ve_var 9 (pv 9)) (VG.ve (vg_op op_mulI d_mul nx_mul (VG.ve vg_int) (ve_var 2 (pv 2)))) (nomark _)) (vw_and1 (vt_cmp (op_eqD hr.units) d_eq nx_eq (VG.ve (vg_op op_sub d_sub nx_sub (ve_var 6 (pv 6)) (ve_var 5 (pv 5)))) (VG.ve vg_int) (nomark _))))) (vs_one (vs_aug 4 (ps_aug sc_law_row.nd rfl (by first | exact Or.inl rfl | exact Or.inr rfl) (VE.pe (VG.ve (vg_callTy call_str_int cb_str nx_str rfl T.b_str (by decide +kernel) (va_cons (VG.ve (vg_op op_mod d_mod nx_mod (VG.ve (vg_op op_fdivW d_fdiv nx_fdiv (ve_var 9 (pv 9)) (ve_var 2 (pv 2)))) (VG.ve vg_int))) va_nil)))) ip_addA) d_addI nx_addI)) (VSs.weak (own'' := [4, 9, 8, 7, 6, 5, 4, 3, 2]) (vs_one (vs_if (own' := [9, 8, 7, 6, 5, 4, 3, 2]) (vt_cmp op_ge d_ge nx_ge (ve_var 9 (pv 9)) (VG.ve (vg_op op_mulI d_mul nx_mul (VG.ve vg_int) (ve_var 2 (pv 2)))) (nomark _)) (vs_one (vs_extendP (i := 3) (ps_expr (pe_bm PySem.F.plainAttrs_list PySem.F.slot_list_extend PySem.F.type_list_extend mt_extendS (VL.pe (vl_var 3 (pv 3))) (pa_cons (VE.pe (VG.ve (vg_lst (vb_cons (vg_tup (vb_cons (VE.vg (ve_var 8 (pv 8))) (vb_cons (VE.vg (ve_var 6 (pv 6))) (vb_cons vg_bl vb_nil))) (len_cons (len_cons (len_cons len_nil)))) (vb_cons (vg_tup (vb_cons (VE.vg (ve_var 5 (pv 5))) (vb_cons (VE.vg (ve_var 8 (pv 8))) (vb_cons vg_bl vb_nil))) (len_cons (len_cons (len_cons len_nil)))) vb_nil)) (len_cons (len_cons len_nil))))) pa_nil))))) (VSs.weak (own'' := [9, 8, 7, 6, 5, 4, 3, 2]) (vs_cons (vs_if (own' := [4, 9, 8, 7, 6, 5, 4, 3, 2]) (vt_not (vt_val (ve_var 7 (pv 7)))) (vs_one (vs_aug 4 (ps_aug sc_law_row.nd rfl (by first | exact Or.inl rfl | exact Or.inr rfl) (VE.pe (VG.ve (vg_callTy call_str_int cb_str nx_str rfl T.b_str (by decide +kernel) (va_cons (VG.ve (vg_callTy call_int1 cb_int nx_int rfl T.b_int (by decide +kernel) (va_cons (VG.ve (vg_cmp op_ge d_ge nx_ge (ve_var 9 (pv 9)) (ve_var 2 (pv 2)) (nomark _))) va_nil))) va_nil)))) ip_addA) d_addI nx_addI)) (VSs.weak (own'' := [4, 9, 8, 7, 6, 5, 4, 3, 2]) vs_nil))
      (vs_one (vs_if (own' := [4, 4, 9, 8, 7, 6, 5, 4, 3, 2]) (VW.vt (vw_and (vt_cmp op_ge d_ge nx_ge (ve_var 9 (pv 9)) (ve_var 2 (pv 2)) (nomark _)) (vw_and1 (vt_cmp (op_eqD hr.units) d_eq nx_eq (VG.ve (vg_op op_sub d_sub nx_sub (ve_var 6 (pv 6)) (ve_var 5 (pv 5)))) (VG.ve vg_int) (nomark _))))) (vs_one (vs_aug 4 (ps_aug sc_law_row.nd rfl (by first | exact Or.inl rfl | exact Or.inr rfl) (VE.pe (VG.ve (vg_callTy call_str_int cb_str nx_str rfl T.b_str (by decide +kernel) (va_cons (VG.ve (vg_callTy call_int1 cb_int nx_int rfl T.b_int (by decide +kernel) (va_cons (VG.ve (vg_cmp op_lt d_lt nx_lt (ve_ix (ve_var 0 (pv 0)) (ve_var 5 (pv 5)) (fun _ _ => rfl)) (VG.ve vg_int) (nomark _))) va_nil))) va_nil)))) ip_addA) d_addI nx_addI)) (VSs.weak (own'' := [4, 4, 9, 8, 7, 6, 5, 4, 3, 2]) (vs_one (vs_if (own' := [7, 4, 9, 8, 7, 6, 5, 4, 3, 2]) (vt_cmp op_ge d_ge nx_ge (ve_var 9 (pv 9)) (ve_var 2 (pv 2)) (nomark _)) (vs_cons (vs_set 7 sc_law_row.nd rfl (by first | exact Or.inl rfl | exact Or.inr rfl) (vg_callB (cr_all rfl) cb_all nx_all rfl T.b_all (by decide +kernel) (va_cons (VG.ve (vg_lc (own := [("_law_number", 10)]) rfl sc_law_row.nd (vi_seq (VG.vp (vg_sl (ve_var 0 (pv 0)) (vo_some (ve_var 5 (pv 5))) (vo_some (ve_var 8 (pv 8)))))) (blkOk_by (by kernel_rfl)) (tk_name 10) (fun _ _ _ _ _ => (pg_name (i := 10) sc_law_row.nd rfl (by first | exact Or.inl rfl | exact Or.inr rfl))) (fun _ _ _ _ _ => vts_nil) (fun _ _ _ _ _ => (vg_cmp op_lt d_lt nx_lt (VG.ve (vg_callB call_abs cb_abs nx_abs rfl T.b_abs (by decide +kernel) (va_cons (ve_var 10 (pv 10)) va_nil))) (ve_var 2 (pv 2)) (nomark _))))) va_nil)))
      (vs_one (vs_extendP (i := 3) (ps_expr (pe_bm PySem.F.plainAttrs_list PySem.F.slot_list_extend PySem.F.type_list_extend mt_extendS (VL.pe (vl_var 3 (pv 3))) (pa_cons (VE.pe (VG.ve (vg_lst (vb_cons (vg_tup (vb_cons (VE.vg (ve_var 8 (pv 8))) (vb_cons (VE.vg (ve_var 6 (pv 6))) (vb_cons (VE.vg (ve_var 7 (pv 7))) vb_nil))) (len_cons (len_cons (len_cons len_nil)))) (vb_cons (vg_tup (vb_cons (VE.vg (ve_var 5 (pv 5))) (vb_cons (VE.vg (ve_var 8 (pv 8))) (vb_cons vg_bl vb_nil))) (len_cons (len_cons (len_cons len_nil)))) vb_nil)) (len_cons (len_cons len_nil))))) pa_nil)))))) (VSs.weak (own'' := [7, 4, 9, 8, 7, 6, 5, 4, 3, 2]) vs_nil))))))))))))))))))
      (vs_one (vs_retV 4 (pv 4)))))))
/-! law -/
abbrev s_law : Stmt := topS 8
theorem sc_law : FnScope ["_law_script", "_law_way", "_law_cells", "_law_some_here", "_law_kept", "_law_planes", "_law_found", "_law_due", "_law_number", "_law_plane"] ["_law_script"] (defScope s_law) := ⟨rfl, rfl, rfl, by decide +kernel, rfl, by decide +kernel, by decide +kernel⟩
noncomputable def b_law : Vs.Env → Sr := (seqS (asgS 1 (op2 modD (callF m_law_cell_at (consA (varE 0) (consA (cE (.int 0)) nilA))) (cE (.int 4))))
    (seqS (asgS 2 (slG (varE 0) (someO (cE (.int 2))) (someO (cE (.int 42)))))
    (seqS (ifS (boolR (op2 eqD (varE 1) (cE (.int 3)))) (asgS 2 (slG (varE 0) (someO (cE (.int 2))) (someO (cE (.int 7))))) nilS)
    (seqS (asgS 3 (callF m_law_some (consA (varE 2) (consA (varE 1) nilA))))
    (seqS (ifS (boolR (op2 eqD (op2 modD (op2 fdivD (callF m_law_cell_at (consA (varE 0) (consA (cE (.int 0)) nilA))) (cE (.int 4))) (cE (.int 8))) (cE (.int 3)))) (asgS 3 (callF m_law_spread (consA (varE 3) (consA (op2 fdivD (callF m_law_cell_at (consA (varE 0) (consA (cE (.int 1)) nilA))) (cE (.int 4))) nilA)))) nilS)
    (seqS (asgS 4 (callB listD (consA (varE 3) nilA)))
    (seqS (asgS 5 (cE (.int 0)))
    (seqS (whileS (boolR (callB anyD (consA (lcE [8] (itV itemsR (varE 3)) (tgN 8) yesT (op2 gtD (op2 shrD (callB absD (consA (varE 8) nilA)) (varE 5)) (cE (.int 0)))) nilA))) (augS 5 addI (cE (.int 1))))
    (seqS (augS 5 addI (op2 modD (callF m_law_cell_at (consA (varE 0) (consA (cE (.int 1)) nilA))) (cE (.int 4))))
    (seqS (asgS 6 (callF m_told (consA (varE 3) (consA (varE 5) nilA))))
    (seqS (asgS 7 (lcE [9] (itR rngS (consA (op2 subD (varE 5) (cE (.int 1))) (consA (negE (cE (.int 1))) (consA (negE (cE (.int 1))) nilA)))) (tgN 9) yesT (callF m_law_row (consA (varE 4) (consA (varE 9) nilA)))))
    (retS (andE (isiE "str" (varE 6)) (andE (op2 eqD (varE 6) (m1E joinG (cE (.str "")) (varE 7))) (op2 eqD (varE 3) (varE 4))))))))))))))))
noncomputable def m_law : List D → R D := runB 10 b_law
theorem r_law (x0 : D) : m_law [x0] = bodyR (b_law [some x0, none, none, none, none, none, none, none, none, none]) := rfl
theorem v_law {P : Program} {w : World} {K : PySem.W.Frag} {mg : Str → Option Value} {base : Heap} (T : Txt K mg) (c_law_cell_at : Cal P w K mg base "_law_cell_at" ["_law_script", "_law_k"] 1 m_law_cell_at) (c_law_some : Cal P w K mg base "_law_some" ["_law_cells", "_law_way"] 1 m_law_some) (c_law_spread : Cal P w K mg base "_law_spread" ["_law_some_here", "_law_cell"] 1 m_law_spread) (c_told : Cal P w K mg base "told" ["some", "planes"] 16 m_told) (c_law_row : Cal P w K mg base "_law_row" ["_law_some_here", "_law_plane"] 1 m_law_row) (f : Addr) (cdv : Value) (A : Around) (outer : List PySem.Env) (s : Shared) (H : Hp) (E : XK) (hr : Room 16 (A.deeper (envOfC "law" (defScope s_law) s.heap.objs.size f cdv))) :
    VSs (cxOf (L2.CX P w) P w K mg base ["_law_script", "_law_way", "_law_cells", "_law_some_here", "_law_kept", "_law_planes", "_law_found", "_law_due", "_law_number", "_law_plane"] "law" (defScope s_law) f cdv A outer s H E) (fun cls d _ H => E cls d H) [] [] [] (defBody s_law) b_law :=
      (vs_cons (vs_set 1 sc_law.nd rfl (by first | exact Or.inl rfl | exact Or.inr rfl) (vg_op op_mod d_mod nx_mod (VG.ve (vg_fn c_law_cell_at hr (takes_of rfl rfl rfl rfl) rfl (va_cons (ve_var 0 (pv 0)) (va_cons (VG.ve vg_int) va_nil)) (len_cons (len_cons len_nil)))) (VG.ve vg_int)))
      (vs_cons (vs_set 2 sc_law.nd rfl (by first | exact Or.inl rfl | exact Or.inr rfl) (vg_sl (ve_var 0 (pv 0)) (vo_some (VG.ve vg_int)) (vo_some (VG.ve vg_int))))
      (vs_cons (vs_if (own' := [2, 2, 1]) (vt_cmp (op_eqD hr.units) d_eq nx_eq (ve_var 1 (pv 1)) (VG.ve vg_int) (nomark _)) (vs_one (vs_set 2 sc_law.nd rfl (by first | exact Or.inl rfl | exact Or.inr rfl) (vg_sl (ve_var 0 (pv 0)) (vo_some (VG.ve vg_int)) (vo_some (VG.ve vg_int))))) (VSs.weak (own'' := [2, 2, 1]) vs_nil))
      (vs_cons (vs_set 3 sc_law.nd rfl (by first | exact Or.inl rfl | exact Or.inr rfl) (vg_fn c_law_some hr (takes_of rfl rfl rfl rfl) rfl (va_cons (ve_var 2 (pv 2)) (va_cons (ve_var 1 (pv 1)) va_nil)) (len_cons (len_cons len_nil))))
      (vs_cons (vs_if (own' := [3, 3, 2, 2, 1]) (vt_cmp (op_eqD hr.units) d_eq nx_eq (VG.ve (vg_op op_mod d_mod nx_mod (VG.ve (vg_op op_fdivW d_fdiv nx_fdiv (VG.ve (vg_fn c_law_cell_at hr (takes_of rfl rfl rfl rfl) rfl (va_cons (ve_var 0 (pv 0)) (va_cons (VG.ve vg_int) va_nil)) (len_cons (len_cons len_nil)))) (VG.ve vg_int))) (VG.ve vg_int))) (VG.ve vg_int) (nomark _)) (vs_one (vs_set 3 sc_law.nd rfl (by first | exact Or.inl rfl | exact Or.inr rfl) (vg_fn c_law_spread hr (takes_of rfl rfl rfl rfl) rfl (va_cons (ve_var 3 (pv 3)) (va_cons (VG.ve (vg_op op_fdivW d_fdiv nx_fdiv (VG.ve (vg_fn c_law_cell_at hr (takes_of rfl rfl rfl rfl) rfl (va_cons (ve_var 0 (pv 0)) (va_cons (VG.ve vg_int) va_nil)) (len_cons (len_cons len_nil)))) (VG.ve vg_int))) va_nil)) (len_cons (len_cons len_nil))))) (VSs.weak (own'' := [3, 3, 2, 2, 1]) vs_nil))
      (vs_cons (vs_set 4 sc_law.nd rfl (by first | exact Or.inl rfl | exact Or.inr rfl) (vg_callTy call_list_of cb_list nx_list rfl T.b_list (by decide +kernel) (va_cons (ve_var 3 (pv 3)) va_nil)))
      (vs_cons (vs_set 5 sc_law.nd rfl (by first | exact Or.inl rfl | exact Or.inr rfl) vg_int)
      (vs_cons (vs_while (passes_of rfl) (vt_val (VG.ve (vg_callB (cr_any rfl) cb_any nx_any rfl T.b_any (by decide +kernel) (va_cons (VG.ve (vg_lc (own := [("_law_number", 8)]) rfl sc_law.nd (vi_seq (vp_var 3 (pv 3))) (blkOk_by (by kernel_rfl)) (tk_name 8) (fun _ _ _ _ _ => (pg_name (i := 8) sc_law.nd rfl (by first | exact Or.inl rfl | exact Or.inr rfl))) (fun _ _ _ _ _ => vts_nil) (fun _ _ _ _ _ => (vg_cmp op_gt d_gt nx_gt (VG.ve (vg_op op_shr d_shr nx_shr (VG.ve (vg_callB call_abs cb_abs nx_abs rfl T.b_abs (by decide +kernel) (va_cons (ve_var 8 (pv 8)) va_nil))) (ve_var 5 (pv 5)))) (VG.ve vg_int) (nomark _))))) va_nil)))) (VSs.weak (own'' := [5, 4, 3, 3, 2, 2, 1]) (vs_one (vs_aug 5 (ps_aug sc_law.nd rfl (by first | exact Or.inl rfl | exact Or.inr rfl) (VE.pe (VG.ve vg_int)) ip_addA) d_addI nx_addI))))
      (vs_cons (vs_aug 5 (ps_aug sc_law.nd rfl (by first | exact Or.inl rfl | exact Or.inr rfl) (VE.pe (VG.ve (vg_op op_mod d_mod nx_mod (VG.ve (vg_fn c_law_cell_at hr (takes_of rfl rfl rfl rfl) rfl (va_cons (ve_var 0 (pv 0)) (va_cons (VG.ve vg_int) va_nil)) (len_cons (len_cons len_nil)))) (VG.ve vg_int)))) ip_addA) d_addI nx_addI)
      (vs_cons (vs_set 6 sc_law.nd rfl (by first | exact Or.inl rfl | exact Or.inr rfl) (vg_fn c_told hr (takes_of rfl rfl rfl rfl) rfl (va_cons (ve_var 3 (pv 3)) (va_cons (ve_var 5 (pv 5)) va_nil)) (len_cons (len_cons len_nil))))
      (vs_cons (vs_setLc 7 (hsw := (sw_true rfl rfl rfl (by decide +kernel))) (hy := rfl) (hyl := rfl) (hc := rfl) (hN := sc_law.nd) (own := [("_law_plane", 9)]) (vi_rng3 rfl T.b_range (va_cons (VG.ve (vg_op op_sub d_sub nx_sub (ve_var 5 (pv 5)) (VG.ve vg_int))) (va_cons (VG.ve (vg_neg (VG.ve vg_int))) (va_cons (VG.ve (vg_neg (VG.ve vg_int))) va_nil)))) (blkOk_by (by kernel_rfl)) (tk_name 9) (fun _ _ _ _ _ => (pg_name (i := 9) sc_law.nd rfl (by first | exact Or.inl rfl | exact Or.inr rfl))) (fun _ _ _ _ _ => vts_nil) (fun _ _ _ _ _ => (vg_fn c_law_row hr takes0 rfl (va_cons (ve_var 4 (pv 4)) (va_cons (ve_var 9 (pv 9)) va_nil)) (len_cons (len_cons len_nil)))))
      (vs_one (vs_ret (vg_and (VG.ve (vg_isi k5_str rfl T.b_isinstance (pe_bltn (v := .ty "str") rfl T.b_str (by decide +kernel) rfl) (ve_var 6 (pv 6)))) (vg_and (VG.ve (vg_cmp (op_eqD hr.units) d_eq nx_eq (ve_var 6 (pv 6)) (VG.ve (vg_m1 PySem.F.slot_str_join PySem.F.type_str_join mt_join md_join mn_join (VG.ve vg_str) (ve_var 7 (pv 7)))) (nomark _))) (vg_one (vg_cmp (op_eqD hr.units) d_eq nx_eq (ve_var 3 (pv 3)) (ve_var 4 (pv 4)) (nomark _))))))))))))))))))
end Lw
namespace Lw
open PySem PySem.Spec PyProof.Rows L2 Vs
local macro_rules | `(tactic| walk_at "ev") => `(tactic| try simp -implicitDefEqProofs only [seqS_eq, seq_nx, seq_rt, seq_st, seq_bk, seq_ct, seq_ex, seq_ite, body_nx, body_rt, body_ex, body_ite, bindS_ok, bindS_st, bindS_ex, bindS_ite, bind_ite, R.bind_ok, R.bind_st, R.bind_ex, var0, varS, retV0, retVS, asgS, cE, op2, negE, negD_int, imm, immD_int, immD_bl, immD_str, immD_non, immD_tup, immDs_nil, immDs_cons, addD_int, subD_int, mulD_ok, fdivD_pos, modD_pos, powD_ok, shlD_ok, shrD_ok, ltD_int, leD_int, gtD_int, geD_int, eqD_int, neD_int, boolR, andT, orT, notT, andE, orE, notE, ifS, retS, retNS, nilS, callB, callF, consA, nilA, lenD_lst, lenD_tup, len_0, len_1, len_2, len_3, absD_int, Int.reduceEq, not_true, not_false_eq_true, ne_eq, neD_int, eqD_pair, neD_pair, maxD_int, minD_int, maxD_l2, minD_l2, List.set_cons_zero, List.set_cons_succ, isiE, chD_eq, chK_bl, ite_bl, eqD_bl, decide_true, decide_false, if_true, if_false, ite_true, ite_false, Bool.not_true, Bool.not_false, decide_eq_true_eq, Bool.not_eq_true', decide_eq_false_iff_not, Bool.false_eq_true, Bool.true_eq_false, exprS, reduceIte, tupE, lstE, List.length_map, isD, isNotD, isNonB, ix0_lst, ix0_tup, ix1_lst, ix1_tup, ix2_lst, ix2_tup, ix3_lst, ix3_tup, ix4_lst, ix4_tup, ix5_lst, ix5_tup, Go_nx, Go_ct, Int.reduceLT, Int.reduceLE, Int.reduceNeg, Int.reduceSub, Int.reduceAdd, Int.reduceMul, Int.reduceToNat, Nat.reduceLT, Nat.reduceLeDiff, Nat.reducePow, Bool.and_true, Bool.and_false, Bool.true_and, Bool.false_and, isT_int_non, isT_int_bl, isT_int_int, isT_int_str, isT_int_lst, isT_int_tup, isT_bool_non, isT_bool_bl, isT_bool_int, isT_bool_str, isT_bool_lst, isT_bool_tup, isT_str_non, isT_str_bl, isT_str_int, isT_str_str, isT_str_lst, isT_str_tup, isT_list_non, isT_list_bl, isT_list_int, isT_list_str, isT_list_lst, isT_list_tup, isT_tuple_non, isT_tuple_bl, isT_tuple_int, isT_tuple_str, isT_tuple_lst, isT_tuple_tup])
/-- the script's cell, 0 behind its end -/
def cell (ns : List Int) (k : Int) : Int := ns.getD k.toNat 0
theorem cell_at (ns : List Int) (k : Int) (h : 0 ≤ k) : m_law_cell_at [.lst (ns.map D.int), .int k] = .ok (.int (cell ns k)) := by
  rw [r_law_cell_at]
  simp only [b_law_cell_at]
  walk_at "ev"
  split
  · rename_i h2
    rw [ixD_ints h h2]
    walk_at "ev"
    rfl
  · rename_i h2
    unfold cell
    rw [List.getD_eq_getElem?_getD, List.getElem?_eq_none (by omega)]
    rfl
theorem appS_map {α : Type} {f : α → D} {i : Nat} {g : Vs.Env → R D} {ρ : Vs.Env} {xs : List α} {v : α} (he : g ρ = .ok (f v)) (hρ : ρ[i]? = some (some (.lst (xs.map f)))) (h : xs.length < 16000000) :
    appS i g ρ = .nx (ρ.set i (some (.lst ((xs ++ [v]).map f)))) := by
  unfold appS
  rw [hρ]
  simp only
  rw [he]
  simp only [bindS_ok]
  rw [if_pos (by rw [sizeLine_eq, List.length_map]; omega), List.map_append]
  rfl
/-! texts of bits -/
def stB (bs : List Bool) : Str := ⟨(bs.map fun b => if b then 49 else 48).toArray⟩
theorem stB_app (a b : List Bool) : stB a ++ stB b = stB (a ++ b) := by
  show (⟨_ ++ _⟩ : Str) = ⟨_⟩
  simp [stB]
theorem stB_len (a : List Bool) : (stB a).length = a.length := by
  show (List.toArray _).size = _
  simp
theorem stB_nil : (Str.ofString "") = stB [] := by decide +kernel
theorem stB_0 : (Str.ofString (toString (0 : Int))) = stB [false] := by decide +kernel
theorem stB_1 : (Str.ofString (toString (1 : Int))) = stB [true] := by decide +kernel
theorem strD_01 (b : Bool) : strD [.int (if b then 1 else 0)] = .ok (.str (stB [b])) := by
  cases b
  · unfold strD
    simp only [Bool.false_eq_true, if_false]
    rw [if_pos (by decide), stB_0]
  · unfold strD
    simp only [if_true]
    rw [if_pos (by decide), stB_1]
theorem strD_if {P : Prop} [Decidable P] : strD [.int (if P then 1 else 0)] = .ok (.str (stB [decide P])) := by
  by_cases h : P
  · rw [if_pos h, decide_eq_true h]; exact strD_01 true
  · rw [if_neg h, decide_eq_false h]; exact strD_01 false
theorem intD_bl (b : Bool) : intD [.bl b] = .ok (.int (if b then 1 else 0)) := rfl
theorem addD_stB (a b : List Bool) (h : a.length + b.length ≤ 16000000) : addD (.str (stB a)) (.str (stB b)) = .ok (.str (stB (a ++ b))) := by
  unfold addD
  simp only
  rw [if_pos (by rw [stB_len, stB_len, sizeLine_eq]; omega), stB_app]
theorem addI_stB (a b : List Bool) (h : a.length + b.length ≤ 16000000) : addI (.str (stB a)) (.str (stB b)) = .ok (.str (stB (a ++ b))) := by
  unfold addI
  simp only
  rw [if_pos (by rw [stB_len, stB_len, sizeLine_eq]; omega), stB_app]
/-! bits of numbers -/
abbrev ln (z : Int) : Nat := Builtin.Int.intBits z
theorem ln_le {z : Int} {m : Nat} : ln z ≤ m ↔ z.natAbs < 2 ^ m := intBits_le_iff
theorem ln_abs (z : Int) : ln (if z < 0 then -z else z) = ln z := by
  have h : (if z < 0 then -z else z).natAbs = z.natAbs := by split <;> omega
  unfold ln
  have k : ∀ m, Builtin.Int.intBits (if z < 0 then -z else z) ≤ m ↔ Builtin.Int.intBits z ≤ m := fun m => by rw [intBits_le_iff, intBits_le_iff, h]
  exact Nat.le_antisymm ((k _).mpr (Nat.le_refl _)) ((k _).mp (Nat.le_refl _))
def ab (z : Int) : Int := if z < 0 then -z else z
theorem ab_nat (z : Int) : ab z = (z.natAbs : Int) := by unfold ab; split <;> omega
def bitz (z : Int) (p : Nat) : Bool := z.natAbs / 2 ^ p % 2 == 1
def seg {α : Type} (xs : List α) (s e : Nat) : List α := (xs.drop s).take (e - s)
theorem seg_one {α : Type} (xs : List α) {s : Nat} (h : s < xs.length) : seg xs s (s + 1) = [xs[s]] := by
  unfold seg
  rw [show s + 1 - s = 1 by omega, List.drop_eq_getElem_cons h]
  rfl
theorem seg_len {α : Type} (xs : List α) {s e : Nat} (h : e ≤ xs.length) : (seg xs s e).length = e - s := by
  unfold seg
  rw [List.length_take, List.length_drop]
  omega
theorem cutL_seg {α : Type} (xs : List α) {s e : Nat} (hs : s ≤ e) (he : e ≤ xs.length) : cutL xs (some (s : Int)) (some (e : Int)) = seg xs s e := by
  unfold cutL seg
  rw [HT.sIx_nat, HT.sIx_nat, Nat.min_eq_left he, Nat.min_eq_left (show s ≤ xs.length by omega)]
/-- all of a part below 2 ^ n, but for the sign -/
def sm (xs : List Int) (s e n : Nat) : Bool := (seg xs s e).all fun z => decide (ln z ≤ n)
theorem sm_iff {xs : List Int} {s e n : Nat} : sm xs s e n = true ↔ ∀ z ∈ seg xs s e, ln z ≤ n := by
  unfold sm
  rw [List.all_eq_true]
  exact ⟨fun h z hz => of_decide_eq_true (h z hz), fun h z hz => decide_eq_true (h z hz)⟩
/-- the bits of a part in the row of a plane -/
def pt (xs : List Int) (p : Nat) : Nat → Nat → Nat → Bool → List Bool
  | 0, _, _, _ => []
  | n + 1, s, e, sure =>
    if sm xs s e (p + 1) = false then
      if e - s = 1 then [bitz (xs.getD s 0) p] else pt xs p n s ((s + e) / 2) false ++ pt xs p n ((s + e) / 2) e false
    else (if sure then [] else [!sm xs s e p]) ++
      if sm xs s e p = true then [] else if e - s = 1 then [decide (xs.getD s 0 < 0)] else pt xs p n s ((s + e) / 2) false ++ pt xs p n ((s + e) / 2) e (sm xs s ((s + e) / 2) p)
theorem pt_len (xs : List Int) (p : Nat) : ∀ (n s e : Nat) (sure : Bool), s < e → (pt xs p n s e sure).length ≤ 4 * (e - s) - 2
  | 0, s, e, sure, h => by
    show 0 ≤ _
    omega
  | n + 1, s, e, sure, h => by
    unfold pt
    split
    · split
      · show 1 ≤ _
        omega
      · rw [List.length_append]
        have := pt_len xs p n s ((s + e) / 2) false (by omega)
        have := pt_len xs p n ((s + e) / 2) e false (by omega)
        omega
    · rw [List.length_append]
      have h1 : (if sure = true then ([] : List Bool) else [!sm xs s e p]).length ≤ 1 := by split <;> simp
      generalize (if sure = true then ([] : List Bool) else [!sm xs s e p]) = A at h1
      split
      · show _ + 0 ≤ _
        omega
      · split
        · show _ + 1 ≤ _
          omega
        · rw [List.length_append]
          have := pt_len xs p n s ((s + e) / 2) false (by omega)
          have := pt_len xs p n ((s + e) / 2) e (sm xs s ((s + e) / 2) p) (by omega)
          omega
theorem maxL_le {ns : List Int} (h : ns ≠ []) (m : Int) : maxL ns ≤ m ↔ ∀ y ∈ ns, y ≤ m := by
  obtain ⟨h1, h2⟩ := maxL_spec h
  exact ⟨fun k y hy => Int.le_trans (h2 y hy) k, fun k => k _ h1⟩
def lns (xs : List Int) : List Int := xs.map fun z => (ln z : Int)
theorem lns_len (xs : List Int) : (lns xs).length = xs.length := by simp [lns]
theorem seg_lns (xs : List Int) (s e : Nat) : seg (lns xs) s e = (seg xs s e).map fun z => (ln z : Int) := by
  unfold seg lns
  rw [← List.map_drop, ← List.map_take]
theorem seg_map {α β : Type} (f : α → β) (xs : List α) (s e : Nat) : seg (xs.map f) s e = (seg xs s e).map f := by
  unfold seg
  rw [← List.map_drop, ← List.map_take]
theorem sl_ints {xs : List Int} {s e : Nat} (hs : s ≤ e) (he : e ≤ xs.length) : slD (.lst (xs.map D.int)) (some (s : Int)) (some (e : Int)) = .ok (.lst ((seg xs s e).map D.int)) := by
  show R.ok (D.lst (cutL _ _ _)) = _
  rw [cutL_seg _ hs (by rw [List.length_map]; exact he), seg_map]
theorem top_ok {xs : List Int} {s e : Nat} (hs : s < e) (he : e ≤ xs.length) : ∃ t : Int, maxD [.lst ((seg (lns xs) s e).map D.int)] = .ok (.int t) ∧ ∀ m : Nat, t ≤ m ↔ sm xs s e m = true := by
  have hne : seg (lns xs) s e ≠ [] := fun h => by
    have := seg_len (lns xs) (s := s) (e := e) (by rw [lns_len]; exact he)
    rw [h] at this
    simp at this
    omega
  refine ⟨maxL (seg (lns xs) s e), ?_, fun m => ?_⟩
  · cases hq : seg (lns xs) s e with
    | nil => exact absurd hq hne
    | cons a r => exact maxD_ints a r
  · rw [maxL_le hne, sm_iff, seg_lns]
    constructor
    · intro h z hz
      have := h (ln z) (List.mem_map.mpr ⟨z, hz, rfl⟩)
      omega
    · intro h y hy
      obtain ⟨z, hz, rfl⟩ := List.mem_map.mp hy
      have := h z hz
      omega
theorem bit_of (z : Int) (p : Nat) : andD (.int ((if z < 0 then -z else z) / 2 ^ p)) (.int 1) = .ok (.int (if bitz z p then 1 else 0)) := by
  show R.ok (D.int (Builtin.bitAnd _ 1)) = _
  rw [bitAnd_m1]
  have e : (if z < 0 then -z else z) = ((z.natAbs : Nat) : Int) := by split <;> omega
  have h2 : ((2 : Int) ^ p) = ((2 ^ p : Nat) : Int) := by rw [Int.natCast_pow]; rfl
  rw [e, h2, ← Int.natCast_ediv]
  unfold bitz
  generalize z.natAbs / 2 ^ p = q
  by_cases h : q % 2 = 1
  · rw [h, show ((q : Int) % 2) = 1 by omega]; rfl
  · rw [show q % 2 = 0 by omega, show ((q : Int) % 2) = 0 by omega]; rfl
/-- the end of part_told -/
noncomputable def tailP (rec : List D → R D) : Vs.Env → Sr := (seqS (ifS (boolR (op2 leD (varE 6) (varE 4))) (retV 9) nilS)
    (seqS (ifS (boolR (op2 eqD (op2 subD (varE 3) (varE 2)) (cE (.int 1)))) (retS (op2 addD (varE 9) (callB strD (consA (callB intD (consA (op2 ltD (op2 ixD (varE 0) (varE 2)) (cE (.int 0))) nilA)) nilA)))) nilS)
    (seqS (asgS 8 (callF rec (consA (varE 0) (consA (varE 1) (consA (varE 2) (consA (varE 7) (consA (varE 4) (consA (cE (.bl false)) nilA))))))))
    (retS (op2 addD (op2 addD (varE 9) (varE 8)) (callF rec (consA (varE 0) (consA (varE 1) (consA (varE 7) (consA (varE 3) (consA (varE 4) (consA (op2 leD (callB maxD (consA (slE (varE 1) (someO (varE 2)) (someO (varE 7))) nilA)) (varE 4)) nilA))))))))))))
def PartAt (xs : List Int) (p n : Nat) : Prop := ∀ (s e : Nat) (sure : Bool), s < e → e ≤ xs.length → e - s ≤ 2 ^ n →
    mN_part_told (n + 1) [.lst (xs.map D.int), .lst ((lns xs).map D.int), .int s, .int e, .int p, .bl sure] = .ok (.str (stB (pt xs p (n + 1) s e sure)))
theorem part_step {xs : List Int} {p n : Nat} (hl : xs.length ≤ 4096) (ih : ∀ (s e : Nat) (sure : Bool), s < e → e ≤ xs.length → 1 < e - s + (e - s) → e - s ≤ 2 ^ n / 2 → mN_part_told n [.lst (xs.map D.int), .lst ((lns xs).map D.int), .int s, .int e, .int p, .bl sure] = .ok (.str (stB (pt xs p n s e sure)))) : PartAt xs p n := by
  intro s e sure hs he hn
  rw [rN_part_told]
  simp only [b_part_told]
  obtain ⟨t, et, ht⟩ := top_ok (xs := xs) (s := s) (e := e) (by omega) he
  walk_at "ev"
  simp only [slE, someO]
  walk_at "ev"
  rw [sl_ints (by omega) (by rw [lns_len]; exact he)]
  walk_at "ev"
  rw [et]
  walk_at "ev"
  unfold pt
  have t1 := ht (p + 1)
  have t0 := ht p
  have em : ((s : Int) + (e : Int)) / 2 = (((s + e) / 2 : Nat) : Int) := by omega
  have ei : ((e : Int) - s = 1) ↔ e - s = 1 := by omega
  have hp2 : 2 ^ n = 1 ∨ 2 ^ n = 2 * (2 ^ n / 2) := by
    cases n with
    | zero => exact .inl rfl
    | succ k =>
      right
      rw [Nat.pow_succ, Nat.mul_div_cancel _ (by decide), Nat.mul_comm]
  have r1 : ¬ e - s = 1 → ∀ sure, mN_part_told n [.lst (xs.map D.int), .lst ((lns xs).map D.int), .int s, .int (((s + e) / 2 : Nat) : Int), .int p, .bl sure] = .ok (.str (stB (pt xs p n s ((s + e) / 2) sure))) := fun h sure => ih _ _ _ (by omega) (by omega) (by omega) (by omega)
  have r2 : ¬ e - s = 1 → ∀ sure, mN_part_told n [.lst (xs.map D.int), .lst ((lns xs).map D.int), .int (((s + e) / 2 : Nat) : Int), .int e, .int p, .bl sure] = .ok (.str (stB (pt xs p n ((s + e) / 2) e sure))) := fun h sure => ih _ _ _ (by omega) he (by omega) (by omega)
  have k1 : ¬ e - s = 1 → ∀ sure, (pt xs p n s ((s + e) / 2) sure).length ≤ 16384 := fun h sure => by
    have := pt_len xs p n s ((s + e) / 2) sure (by omega)
    omega
  have k2 : ¬ e - s = 1 → ∀ sure, (pt xs p n ((s + e) / 2) e sure).length ≤ 16384 := fun h sure => by
    have := pt_len xs p n ((s + e) / 2) e sure (by omega)
    omega
  cases h1 : sm xs s e (p + 1) with
  | false =>
    rw [h1] at t1
    rw [if_pos (show (p : Int) + 1 < t by
      have : ¬ t ≤ ((p + 1 : Nat) : Int) := fun z => Bool.false_ne_true (t1.mp z)
      omega), if_pos rfl]
    by_cases sl : e - s = 1
    · rw [if_pos (ei.mpr sl), if_pos sl]
      rw [ixD_ints (by omega) (by omega), Int.toNat_natCast]
      walk_at "ev"
      rw [shrD_ok (by omega), Int.toNat_natCast]
      walk_at "ev"
      rw [bit_of]
      walk_at "ev"
      rw [strD_01]
      walk_at "ev"
    · rw [if_neg (fun z => sl (ei.mp z)), if_neg sl, em, r1 sl]
      walk_at "ev"
      rw [r2 sl]
      walk_at "ev"
      rw [addD_stB _ _ (by have := k1 sl false; have := k2 sl false; omega)]
      walk_at "ev"
  | true =>
    rw [h1] at t1
    have t1' := t1.mpr rfl
    rw [if_neg (show ¬ (p : Int) + 1 < t by omega), if_neg (show ¬ (true = false) by decide), stB_nil]
    have fin : ∀ bs : List Bool, bs.length ≤ 10 → bodyR (tailP (mN_part_told n) [some (.lst (xs.map D.int)), some (.lst ((lns xs).map D.int)), some (.int s), some (.int e), some (.int p), some (.bl sure), some (.int t), some (.int (((s : Int) + (e : Int)) / 2)), none, some (.str (stB bs))]) =
        .ok (.str (stB (bs ++ if sm xs s e p = true then [] else if e - s = 1 then [decide (xs.getD s 0 < 0)] else pt xs p n s ((s + e) / 2) false ++ pt xs p n ((s + e) / 2) e (sm xs s ((s + e) / 2) p)))) := fun bs hbs => by
      unfold tailP
      walk_at "ev"
      cases h0 : sm xs s e p with
      | true =>
        rw [h0] at t0
        rw [if_pos (t0.mpr rfl), if_pos rfl, List.append_nil]
      | false =>
        rw [h0] at t0
        rw [if_neg (fun z => Bool.false_ne_true (t0.mp z)), if_neg (show ¬ (false = true) by decide)]
        by_cases sl : e - s = 1
        · rw [if_pos (ei.mpr sl), if_pos sl]
          rw [ixD_ints (by omega) (by omega), Int.toNat_natCast]
          walk_at "ev"
          rw [intD_bl]
          walk_at "ev"
          rw [strD_if]
          walk_at "ev"
          rw [addD_stB _ _ (by simp; omega)]
          walk_at "ev"
        · rw [if_neg (fun z => sl (ei.mp z)), if_neg sl, em, r1 sl]
          walk_at "ev"
          rw [addD_stB _ _ (by have := k1 sl false; omega)]
          walk_at "ev"
          obtain ⟨t2, et2, ht2⟩ := top_ok (xs := xs) (s := s) (e := (s + e) / 2) (by omega) (by omega)
          simp only [slE, someO]
          walk_at "ev"
          rw [sl_ints (by omega) (by rw [lns_len]; omega)]
          walk_at "ev"
          rw [et2]
          walk_at "ev"
          have eb : decide (t2 ≤ (p : Int)) = sm xs s ((s + e) / 2) p := by
            cases h3 : sm xs s ((s + e) / 2) p with
            | true => exact decide_eq_true ((ht2 p).mpr h3)
            | false => exact decide_eq_false fun z => by rw [(ht2 p).mp z] at h3; cases h3
          rw [eb, r2 sl]
          walk_at "ev"
          rw [addD_stB _ _ (by rw [List.length_append]; have := k1 sl false; have := k2 sl (sm xs s ((s + e) / 2) p); omega), List.append_assoc]
          walk_at "ev"
    cases sure with
    | true =>
      refine Eq.trans ?_ (fin [] (by decide))
      unfold tailP
      walk_at "ev"
    | false =>
      refine Eq.trans ?_ (fin [!sm xs s e p] (by simp))
      unfold tailP
      have eb : decide (t = (p : Int) + 1) = !sm xs s e p := by
        cases h0 : sm xs s e p with
        | true =>
          rw [h0] at t0
          have := t0.mpr rfl
          exact decide_eq_false (by omega)
        | false =>
          rw [h0] at t0
          have : ¬ t ≤ (p : Int) := fun z => Bool.false_ne_true (t0.mp z)
          exact decide_eq_true (by omega)
      walk_at "ev"
      rw [intD_bl]
      walk_at "ev"
      rw [strD_if, eb]
      walk_at "ev"
theorem part_ok {xs : List Int} {p : Nat} (hl : xs.length ≤ 4096) : ∀ n, PartAt xs p n
  | 0 => part_step hl fun s e sure hs he h1 h2 => absurd h2 (by simp; omega)
  | n + 1 => part_step hl fun s e sure hs he h1 h2 => part_ok hl n s e sure hs he (by rw [Nat.pow_succ] at h2; omega)
theorem rngS_down (P : Nat) (hP : P ≤ 1000000) : rngS [.int ((P : Int) - 1), .int (-1), .int (-1)] = .ok (rngC ((P : Int) - 1) (-1) P) := by
  unfold rngS
  simp only
  have hsz : Builtin.Range.rangeSize ((P : Int) - 1) (-1) (-1) = P := by
    unfold Builtin.Range.rangeSize
    rw [if_neg (by decide), show (-(-1 : Int)) = 1 from rfl, Int.ediv_one]
    split <;> omega
  have ok : okRange ((P : Int) - 1) (-1) (-1) := by
    refine ⟨by decide, by decide, ?_⟩
    have e62 : (2 : Int) ^ 62 = 4611686018427387904 := by decide
    unfold Builtin.Range.small Builtin.Range.rangeFitsLong
    rw [hsz]
    have e63 : (2 : Int) ^ 63 = 9223372036854775808 := by decide
    simp [e63]
    omega
  rw [if_pos ok, hsz, Int.toNat_natCast]
theorem down_at {P i : Nat} {d : D} (h : (rngC ((P : Int) - 1) (-1) P)[i]? = some d) : i < P ∧ d = .int ((P - 1 - i : Nat) : Int) := by
  obtain ⟨h1, h2⟩ := rngC_at h
  exact ⟨h1, by rw [h2]; congr 1; omega⟩
/-- the row of a plane -/
def rowB (xs : List Int) (p : Nat) : List Bool := pt xs p 14 0 xs.length false
/-- the bits of the numbers -/
def tld (xs : List Int) (P : Nat) : List Bool := (List.range P).flatMap fun k => rowB xs (P - 1 - k)
theorem rowB_len (xs : List Int) (p : Nat) (h : 0 < xs.length) : (rowB xs p).length ≤ 4 * xs.length := by
  have := pt_len xs p 14 0 xs.length false h
  unfold rowB
  omega
theorem tld_len (xs : List Int) (P : Nat) (h : 0 < xs.length) : (tld xs P).length ≤ P * (4 * xs.length) := by
  unfold tld
  have : ∀ n, ((List.range n).flatMap fun k => rowB xs (P - 1 - k)).length ≤ n * (4 * xs.length) := fun n => by
    induction n with
    | zero => simp
    | succ n ih =>
      rw [List.range_succ, List.flatMap_append, List.flatMap_singleton, List.length_append, Nat.succ_mul]
      have := rowB_len xs (P - 1 - n) h
      omega
  exact this P
theorem fold_nil : ∀ (r : List (List Bool)) (a : List Bool), (r.map stB).foldl (fun acc p => acc ++ (stB []).cps ++ p.cps) (stB a).cps = (stB (a ++ r.flatten)).cps
  | [], a => by simp
  | b :: r, a => by
    rw [List.map_cons, List.foldl_cons, List.flatten_cons, ← List.append_assoc, ← fold_nil r (a ++ b)]
    congr 1
    have h := congrArg Str.cps (stB_app a b)
    have h : (stB a).cps ++ (stB b).cps = (stB (a ++ b)).cps := h
    rw [← h]
    show (stB a).cps ++ #[] ++ _ = _
    simp
theorem join_nil (bss : List (List Bool)) : Txt.join (stB []) (bss.map stB) = stB bss.flatten := by
  show (⟨((bss.map stB).drop 1).foldl _ ((bss.map stB).headD Str.empty).cps⟩ : Str) = _
  cases bss with
  | nil => rfl
  | cons a r =>
    have h := fold_nil r a
    rw [List.map_cons, List.drop_one, List.tail_cons, List.headD_cons, List.flatten_cons]
    rw [h]
theorem sum_len : ∀ bss : List (List Bool), ((bss.map stB).map (·.length)).sum = bss.flatten.length
  | [] => rfl
  | b :: r => by
    rw [List.map_cons, List.map_cons, List.sum_cons, sum_len r, List.flatten_cons, List.length_append, stB_len]
theorem joinG_stB (bss : List (List Bool)) (h : bss.flatten.length ≤ 16000000) : joinG (stB []) (.lst ((bss.map stB).map D.str)) = .ok (.str (stB bss.flatten)) := by
  unfold joinG
  simp only [strsO_map]
  rw [if_pos (by rw [sum_len, stB_len, List.length_nil, Nat.mul_zero]; omega), join_nil]
def lnD : D → D
  | .int z => .int (ln z)
  | x => x
theorem told_ok {xs : List Int} {P : Nat} (h0 : 0 < xs.length) (hl : xs.length ≤ 4096) (hP : P ≤ 1000000) (hb : P * (4 * xs.length) ≤ 16000000) : m_told [.lst (xs.map D.int), .int P] = .ok (.str (stB (tld xs P))) := by
  rw [r_told]
  simp only [b_told]
  walk_at "ev"
  rw [lcE_map (g := lnD) (ds := xs.map D.int) rfl (le_line1000 (by rw [List.length_map]; omega)) (by
    intro d hd
    obtain ⟨z, _, rfl⟩ := List.mem_map.mp hd
    refine ⟨_, rfl, ?_⟩
    show bitsE _ [some (.lst (xs.map D.int)), some (.int P), none, none, none, some (.int z)] = _
    unfold bitsE
    walk_at "ev"
    show R.ok (D.int (ln (if z < 0 then -z else z))) = _
    rw [ln_abs]
    rfl)]
  rw [show (xs.map D.int).map lnD = (lns xs).map D.int by unfold lns; rw [List.map_map, List.map_map]; rfl]
  walk_at "ev"
  simp only [forS, itR]
  walk_at "ev"
  rw [rngS_down P hP]
  walk_at "ev"
  refine body_forI (fun t ρ => ∃ x4, ρ = [some (.lst (xs.map D.int)), some (.int P), some (.lst ((lns xs).map D.int)), some (.lst ((((List.range t).map fun k => rowB xs (P - 1 - k)).map stB).map D.str)), x4, none]) ⟨none, rfl⟩ (fun t d hd ρ hi => ?_) (fun ρ ⟨x4, hρ⟩ => ?_)
  · obtain ⟨x4, rfl⟩ := hi
    obtain ⟨ht, rfl⟩ := down_at hd
    refine ⟨_, rfl, ?_⟩
    show Go _ (appS 3 _ [some (.lst (xs.map D.int)), some (.int P), some (.lst ((lns xs).map D.int)), some (.lst ((((List.range t).map fun k => rowB xs (P - 1 - k)).map stB).map D.str)), some (.int ((P - 1 - t : Nat) : Int)), none])
    rw [appS_map (f := D.str) (xs := ((List.range t).map fun k => rowB xs (P - 1 - k)).map stB) (v := stB (rowB xs (P - 1 - t))) (by
      walk_at "ev"
      exact part_ok (p := P - 1 - t) hl 13 0 xs.length false h0 (Nat.le_refl _) (by omega)) rfl (by rw [List.length_map, List.length_map, List.length_range]; omega)]
    have e : ((List.range (t + 1)).map fun k => rowB xs (P - 1 - k)).map stB = (((List.range t).map fun k => rowB xs (P - 1 - k)).map stB) ++ [stB (rowB xs (P - 1 - t))] := by
      rw [List.range_succ, List.map_append, List.map_append]
      rfl
    rw [e]
    exact ⟨_, rfl⟩
  · rw [rngC_length] at hρ
    subst hρ
    walk_at "ev"
    unfold m1E
    walk_at "ev"
    rw [stB_nil, joinG_stB _ (by
      have := tld_len xs P h0
      unfold tld at this
      rw [List.flatMap_def] at this
      omega)]
    walk_at "ev"
    unfold tld
    rw [List.flatMap_def]
/-! k21: one number -/
theorem stB_ok (bs : List Bool) : PyData.strOk (stB bs) = true := by
  unfold PyData.strOk stB
  simp only
  rw [List.all_toArray, List.all_eq_true]
  intro c hc
  obtain ⟨b, _, rfl⟩ := List.mem_map.mp hc
  cases b <;> rfl
theorem eqD_stB (bs : List Bool) : eqD (.str (stB bs)) (.str (stB bs)) = .ok (.bl true) := eqD_str _ (stB_ok bs)
theorem shr_pos (z : Int) (k : Nat) : (0 : Int) < ab z / 2 ^ k ↔ k < ln z := by
  rw [ab_nat]
  have h2 : ((2 : Int) ^ k) = ((2 ^ k : Nat) : Int) := by rw [Int.natCast_pow]; rfl
  rw [h2, ← Int.natCast_ediv]
  have hp : 0 < 2 ^ k := Nat.pow_pos (by decide)
  have hk := ln_le (z := z) (m := k)
  have : 0 < z.natAbs / 2 ^ k ↔ 2 ^ k ≤ z.natAbs := Nat.div_pos_iff.trans ⟨fun h => h.2, fun h => ⟨hp, h⟩⟩
  omega
theorem slG_ints {f : Vs.Env → R D} {lo hi : Vs.Env → R (Option Int)} {ρ : Vs.Env} {ns : List Int} {l u : Option Int} (h : f ρ = .ok (.lst (ns.map D.int))) (hl : lo ρ = .ok l) (hu : hi ρ = .ok u) : slG f lo hi ρ = .ok (.lst ((cutL ns l u).map D.int)) := by
  unfold slG slE
  rw [h, R.bind_ok, hl, R.bind_ok, hu, R.bind_ok]
  show (R.ok (D.lst (cutL _ _ _))).bind immL = _
  have e : cutL (ns.map D.int) l u = (cutL ns l u).map D.int := by
    unfold cutL
    rw [List.length_map, ← List.map_drop, ← List.map_take]
  rw [R.bind_ok, e]
  unfold immL
  simp only
  rw [if_pos (immDs_ints _)]
theorem fl_lst_ints (ns : List Int) : Fl 1 (.lst (ns.map D.int)) := .lst (fl_ints ns)
theorem enum_at {ds : List D} {i : Nat} {d : D} (h : (enumL 0 ds)[i]? = some d) : ∃ e, ds[i]? = some e ∧ d = .tup [.int (i : Int), e] := by
  obtain ⟨e, h1, h2⟩ := enumL_get h
  exact ⟨e, h1, by rw [h2, Nat.zero_add]⟩
/-! the places of a picture -/
/-- how often both can be halved, at most r times -/
def lvh : Nat → Nat → Nat → Nat
  | _, _, 0 => 0
  | i, j, r + 1 => if i % 2 = 0 ∧ j % 2 = 0 then lvh (i / 2) (j / 2) r + 1 else 0
def pr (p : Nat × Nat) : D := .tup [.int p.1, .int p.2]
def key (L : Nat) (p : Nat × Nat) : Nat := L - lvh p.1 p.2 L
def bk (L : Nat) (P : List (Nat × Nat)) (k : Nat) : List (Nat × Nat) := P.filter fun p => decide (key L p = k)
def bl (L : Nat) (P : List (Nat × Nat)) : List D := (List.range (L + 1)).map fun k => D.lst ((bk L P k).map pr)
theorem extP_at {i : Nat} {fp : Vs.Env → R (List Nat)} {f : Vs.Env → R D} {ρ : Vs.Env} {p : List Nat} {ds es : List D} {dd d' : D} (h1 : fp ρ = .ok p) (h2 : ρ[i]? = some (some dd)) (h3 : getP p dd = some (.lst ds)) (h4 : f ρ = .ok (.lst es)) (h5 : ds.length + es.length < 16000000) (hm : immDs es = true) (h6 : setP p (.lst (ds ++ es)) dd = some d') :
    extP i fp f ρ = .nx (ρ.set i (some d')) := by
  unfold extP putP atP
  rw [h1, bindS_ok, h2]
  simp only [h3, h4, bindS_ok]
  rw [if_pos ⟨by rw [sizeLine_eq]; omega, hm⟩]
  simp only [h6]
/-! k22: the rows by a list of parts -/
theorem pt_fuel (xs : List Int) (p : Nat) : ∀ (n n' s e : Nat) (sure : Bool), s < e → e - s ≤ 2 ^ n → e - s ≤ 2 ^ n' → pt xs p (n + 1) s e sure = pt xs p (n' + 1) s e sure := by
  intro n
  induction n with
  | zero =>
    intro n' s e sure hs h1 h2
    rw [Nat.pow_zero] at h1
    have : e - s = 1 := by omega
    unfold pt
    rw [if_pos this, if_pos this, if_pos this, if_pos this]
  | succ n ih =>
    intro n' s e sure hs h1 h2
    by_cases h : e - s = 1
    · unfold pt
      rw [if_pos h, if_pos h, if_pos h, if_pos h]
    · cases n' with
      | zero => rw [Nat.pow_zero] at h2; omega
      | succ n' =>
        rw [Nat.pow_succ] at h1 h2
        have a1 : ∀ b, pt xs p (n + 1) s ((s + e) / 2) b = pt xs p (n' + 1) s ((s + e) / 2) b := fun b => ih n' _ _ b (by omega) (by omega) (by omega)
        have a2 : ∀ b, pt xs p (n + 1) ((s + e) / 2) e b = pt xs p (n' + 1) ((s + e) / 2) e b := fun b => ih n' _ _ b (by omega) (by omega) (by omega)
        unfold pt
        rw [a1, a2, a2]
/-- a part's bits -/
def pf (xs : List Int) (p s e : Nat) (sure : Bool) : List Bool := pt xs p 14 s e sure
theorem pf_eq (xs : List Int) (p : Nat) {s e : Nat} (sure : Bool) (hs : s < e) (he : e - s ≤ 4096) : pf xs p s e sure =
    if sm xs s e (p + 1) = false then
      if e - s = 1 then [bitz (xs.getD s 0) p] else pf xs p s ((s + e) / 2) false ++ pf xs p ((s + e) / 2) e false
    else (if sure then [] else [!sm xs s e p]) ++
      if sm xs s e p = true then [] else if e - s = 1 then [decide (xs.getD s 0 < 0)] else pf xs p s ((s + e) / 2) false ++ pf xs p ((s + e) / 2) e (sm xs s ((s + e) / 2) p) := by
  by_cases h : e - s = 1
  · rw [if_pos h, if_pos h]
    show pt xs p (13 + 1) s e sure = _
    unfold pt
    rw [if_pos h, if_pos h]
  · rw [if_neg h, if_neg h]
    have a1 : ∀ b, pt xs p 13 s ((s + e) / 2) b = pf xs p s ((s + e) / 2) b := fun b => pt_fuel xs p 12 13 _ _ b (by omega) (by omega) (by omega)
    have a2 : ∀ b, pt xs p 13 ((s + e) / 2) e b = pf xs p ((s + e) / 2) e b := fun b => pt_fuel xs p 12 13 _ _ b (by omega) (by omega) (by omega)
    show pt xs p (13 + 1) s e sure = _
    unfold pt
    rw [if_neg h, if_neg h, a1, a2, a2]
structure Prt where
  s : Nat
  e : Nat
  b : Bool
def Prt.d (q : Prt) : D := .tup [.int q.s, .int q.e, .bl q.b]
def Prt.ok (n : Nat) (q : Prt) : Prop := q.s < q.e ∧ q.e ≤ n
def Prt.w (q : Prt) : Nat := 2 * (q.e - q.s) - 1
def wts (st : List Prt) : Nat := (st.map Prt.w).sum
def outs (xs : List Int) (p : Nat) (st : List Prt) : List Bool := st.reverse.flatMap fun q => pf xs p q.s q.e q.b
theorem outs_snoc (xs : List Int) (p : Nat) (st : List Prt) (q : Prt) : outs xs p (st ++ [q]) = pf xs p q.s q.e q.b ++ outs xs p st := by
  unfold outs
  rw [List.reverse_append, List.flatMap_append]
  simp
theorem wts_snoc (st : List Prt) (q : Prt) : wts (st ++ [q]) = wts st + q.w := by
  unfold wts
  rw [List.map_append, List.sum_append]
  simp
theorem absm (xs : List Int) (s e m : Nat) : (∀ y ∈ (seg xs s e).map ab, y < 2 ^ m) ↔ sm xs s e m = true := by
  rw [sm_iff]
  have h2 : ((2 : Int) ^ m) = ((2 ^ m : Nat) : Int) := by rw [Int.natCast_pow]; rfl
  rw [h2]
  constructor
  · intro h z hz
    have := h (ab z) (List.mem_map.mpr ⟨z, hz, rfl⟩)
    rw [ab_nat] at this
    exact ln_le.mpr (by omega)
  · intro h y hy
    obtain ⟨z, hz, rfl⟩ := List.mem_map.mp hy
    have := ln_le.mp (h z hz)
    rw [ab_nat]
    omega
theorem seg_getD {xs : List Int} {s : Nat} (h : s < xs.length) : seg xs s (s + 1) = [xs.getD s 0] := by
  rw [seg_one xs h, List.getD_eq_getElem?_getD, List.getElem?_eq_getElem h]
  rfl
def gAb : D → D
  | .int z => .int (ab z)
  | x => x
def gLt (m : Int) : D → D
  | .int z => .bl (decide (ab z < m))
  | x => x
/-- the body of the loop behind the greatest -/
theorem mul22 (p : Nat) (hp : p ≤ 2000) : mulD (.int 2) (.int (2 ^ p)) = .ok (.int (2 ^ (p + 1))) := by
  rw [mulD_ok ((Bits.of64 (by decide) (by decide) : Bits 64 2).ok (Bits.pow2 p) (by omega)), Int.pow_succ, Int.mul_comm]
noncomputable def tstW : Vs.Env → R Bool := (boolR (op2 neD (varE 3) (lstE nilA)))
noncomputable def bodyW : Vs.Env → Sr := (seqS (popS 3 noP [5, 6, 7])
    (seqS (asgS 8 (op2 fdivD (op2 addD (varE 5) (varE 6)) (cE (.int 2))))
    (seqS (asgS 9 (callB maxD (consA (lcE [10] (itV itemsR (slG (varE 0) (someO (varE 5)) (someO (varE 6)))) (tgN 10) yesT (callB absD (consA (varE 10) nilA))) nilA)))
    (ifS (andT (boolR (op2 geD (varE 9) (op2 mulD (cE (.int 2)) (varE 2)))) (boolR (op2 eqD (op2 subD (varE 6) (varE 5)) (cE (.int 1))))) (augS 4 addI (callB strD (consA (op2 modD (op2 fdivD (varE 9) (varE 2)) (cE (.int 2))) nilA))) (ifS (boolR (op2 geD (varE 9) (op2 mulD (cE (.int 2)) (varE 2)))) (extP 3 noP (lstE (consA (tupE (consA (imm (varE 8)) (consA (imm (varE 6)) (consA (cE (.bl false)) nilA)))) (consA (tupE (consA (imm (varE 5)) (consA (imm (varE 8)) (consA (cE (.bl false)) nilA)))) nilA)))) (seqS (ifS (notT (boolR (varE 7))) (augS 4 addI (callB strD (consA (callB intD (consA (op2 geD (varE 9) (varE 2)) nilA)) nilA))) nilS)
    (ifS (andT (boolR (op2 geD (varE 9) (varE 2))) (boolR (op2 eqD (op2 subD (varE 6) (varE 5)) (cE (.int 1))))) (augS 4 addI (callB strD (consA (callB intD (consA (op2 ltD (op2 ixD (varE 0) (varE 5)) (cE (.int 0))) nilA)) nilA))) (ifS (boolR (op2 geD (varE 9) (varE 2))) (seqS (asgS 7 (callB allD (consA (lcE [10] (itV itemsR (slG (varE 0) (someO (varE 5)) (someO (varE 8)))) (tgN 10) yesT (op2 ltD (callB absD (consA (varE 10) nilA)) (varE 2))) nilA)))
    (extP 3 noP (lstE (consA (tupE (consA (imm (varE 8)) (consA (imm (varE 6)) (consA (imm (varE 7)) nilA)))) (consA (tupE (consA (imm (varE 5)) (consA (imm (varE 8)) (consA (cE (.bl false)) nilA)))) nilA))))) nilS))))))))
theorem popS_at {i : Nat} {fp : Vs.Env → R (List Nat)} {is : List Nat} {ρ : Vs.Env} {ds es : List D} (h1 : fp ρ = .ok []) (h2 : ρ[i]? = some (some (.lst (ds ++ [.tup es])))) (hm : immDs es = true) (hl : es.length = is.length) : popS i fp is ρ = .nx (Vs.putAll is es (ρ.set i (some (.lst ds)))) := by
  unfold popS
  rw [h1, bindS_ok]
  have ha : atP i [] ρ = some (.lst (ds ++ [.tup es])) := by
    unfold atP
    rw [h2]
    rfl
  rw [ha]
  simp only
  rw [show (ds ++ [D.tup es])[(ds ++ [D.tup es]).length - 1]? = some (.tup es) by simp]
  simp only
  rw [if_pos (by rw [immD]; exact hm)]
  unfold unpR
  simp only
  rw [if_pos hl, bindS_ok]
  unfold putP
  rw [h2]
  simp only [setP, List.dropLast_concat]
  rfl
theorem slG_seg {xs : List Int} {f : Vs.Env → R D} {lo hi : Vs.Env → R (Option Int)} {ρ : Vs.Env} {s e : Nat} (h : f ρ = .ok (.lst (xs.map D.int))) (hl : lo ρ = .ok (some (s : Int))) (hu : hi ρ = .ok (some (e : Int))) (hs : s ≤ e) (he : e ≤ xs.length) : slG f lo hi ρ = .ok (.lst ((seg xs s e).map D.int)) := by
  rw [slG_ints h hl hu, cutL_seg _ hs he]
/-- a row of the state: the parts left, the bits told -/
def envW (xs : List Int) (p : Nat) (st : List Prt) (bs : List Bool) (x5 x6 x7 x8 x9 : Option D) : Vs.Env := [some (.lst (xs.map D.int)), some (.int p), some (.int (2 ^ p)), some (.lst (st.map Prt.d)), some (.str (stB bs)), x5, x6, x7, x8, x9, none]
theorem augS_str {ρ : Vs.Env} {f : Vs.Env → R D} {a b : List Bool} (h : varE 4 ρ = .ok (.str (stB a))) (hf : f ρ = .ok (.str (stB b))) (hl : a.length + b.length ≤ 16000000) : augS 4 addI f ρ = .nx (ρ.set 4 (some (.str (stB (a ++ b))))) := by
  unfold augS
  rw [h, bindS_ok, hf, bindS_ok, addI_stB _ _ hl, bindS_ok]
theorem turn_W {xs : List Int} {p : Nat} (hxl : xs.length ≤ 4096) (hp : p ≤ 2000) (st : List Prt) (q : Prt) (bs : List Bool) (x5 x6 x7 x8 x9 : Option D) (hq : q.ok xs.length) (hb : bs.length + 4 * 4096 ≤ 15000000) (hst : st.length ≤ 100000) :
    ∃ st' bs' y5 y6 y7 y8 y9, bodyW (envW xs p (st ++ [q]) bs x5 x6 x7 x8 x9) = .nx (envW xs p st' bs' y5 y6 y7 y8 y9) ∧ (∀ r ∈ st', r ∈ st ∨ r.ok xs.length) ∧ wts st' + 1 ≤ wts (st ++ [q]) ∧ bs'.length ≤ bs.length + 2 ∧ st'.length ≤ st.length + 2 ∧
      bs' ++ outs xs p st' = bs ++ outs xs p (st ++ [q]) := by
  obtain ⟨s, e, b⟩ := q
  obtain ⟨hs, he⟩ := hq
  have hs : s < e := hs
  have he : e ≤ xs.length := he
  have hpe := pf_eq xs p b hs (by omega)
  rw [outs_snoc, wts_snoc]
  show ∃ st' bs' y5 y6 y7 y8 y9, _ ∧ _ ∧ _ ∧ _ ∧ _ ∧ bs' ++ outs xs p st' = bs ++ (pf xs p s e b ++ outs xs p st)
  rw [hpe]
  unfold bodyW envW
  rw [List.map_append]
  rw [seqS_eq, popS_at (ds := st.map Prt.d) (es := [.int s, .int e, .bl b]) rfl rfl rfl rfl]
  simp only [Vs.putAll, seq_nx, List.set_cons_succ, List.set_cons_zero]
  walk_at "ev"
  have em : ((s : Int) + (e : Int)) / 2 = (((s + e) / 2 : Nat) : Int) := by omega
  rw [em]
  have hseg : (seg xs s e).length = e - s := seg_len xs he
  rw [lcE_map (g := gAb) (ds := (seg xs s e).map D.int) (by
    unfold itV
    rw [slG_seg (xs := xs) (s := s) (e := e) (by walk_at "ev") (by unfold someO; walk_at "ev") (by unfold someO; walk_at "ev") (by omega) he]
    rfl) (le_line1000 (by rw [List.length_map]; omega)) (by
    intro d hd
    obtain ⟨z, _, rfl⟩ := List.mem_map.mp hd
    refine ⟨_, rfl, ?_⟩
    show callB _ _ [_, _, _, _, _, _, _, _, _, _, some (.int z)] = _
    walk_at "ev"
    rfl)]
  walk_at "ev"
  rw [show ((seg xs s e).map D.int).map gAb = ((seg xs s e).map ab).map D.int by rw [List.map_map, List.map_map]; rfl]
  have hne : (seg xs s e).map ab ≠ [] := fun h => by
    have := congrArg List.length h
    rw [List.length_map, hseg] at this
    simp at this
    omega
  have hmx : maxD [.lst (((seg xs s e).map ab).map D.int)] = .ok (.int (maxL ((seg xs s e).map ab))) := by
    cases hq : (seg xs s e).map ab with
    | nil => exact absurd hq hne
    | cons a r => exact maxD_ints a r
  obtain ⟨mm, ml⟩ := maxL_spec hne
  have tg : ∀ m : Nat, (2 : Int) ^ m ≤ maxL ((seg xs s e).map ab) ↔ sm xs s e m = false := fun m => by
    have := absm xs s e m
    constructor
    · intro h
      cases h1 : sm xs s e m with
      | false => rfl
      | true =>
        have := this.mpr h1 _ mm
        omega
    · intro h
      refine Int.not_lt.mp fun k => ?_
      have : sm xs s e m = true := this.mp fun y hy => Int.lt_of_le_of_lt (ml y hy) k
      rw [h] at this
      cases this
  have tone : e - s = 1 → maxL ((seg xs s e).map ab) = ab (xs.getD s 0) := fun h => by
    have : e = s + 1 := by omega
    subst this
    rw [seg_getD (by omega)]
    rfl
  rw [hmx]
  generalize maxL ((seg xs s e).map ab) = top at tg tone
  walk_at "ev"
  rw [mul22 p hp]
  walk_at "ev"
  have ei : ((e : Int) - s = 1) ↔ e - s = 1 := by omega
  have hw : Prt.w ⟨s, e, b⟩ = 2 * (e - s) - 1 := rfl
  have hpz : (0 : Int) < 2 ^ p := Int.pow_pos (by decide)
  rw [hw]
  have push : ∀ (b1 : Bool) (x7 : Option D) (bs : List Bool), ¬ e - s = 1 → ∀ f : Vs.Env → R D, f [some (.lst (xs.map D.int)), some (.int p), some (.int (2 ^ p)), some (.lst (st.map Prt.d)), some (.str (stB bs)), some (.int s), some (.int e), x7, some (.int (((s + e) / 2 : Nat) : Int)), some (.int top), none] = .ok (.lst [.tup [.int (((s + e) / 2 : Nat) : Int), .int e, .bl b1], .tup [.int s, .int (((s + e) / 2 : Nat) : Int), .bl false]]) →
      extP 3 noP f [some (.lst (xs.map D.int)), some (.int p), some (.int (2 ^ p)), some (.lst (st.map Prt.d)), some (.str (stB bs)), some (.int s), some (.int e), x7, some (.int (((s + e) / 2 : Nat) : Int)), some (.int top), none] =
      .nx [some (.lst (xs.map D.int)), some (.int p), some (.int (2 ^ p)), some (.lst ((st ++ [Prt.mk ((s + e) / 2) e b1] ++ [Prt.mk s ((s + e) / 2) false]).map Prt.d)), some (.str (stB bs)), some (.int s), some (.int e), x7, some (.int (((s + e) / 2 : Nat) : Int)), some (.int top), none] := fun b1 x7 bs h f hf => by
    rw [extP_at (p := []) (ds := st.map Prt.d) (es := [.tup [.int (((s + e) / 2 : Nat) : Int), .int e, .bl b1], .tup [.int s, .int (((s + e) / 2 : Nat) : Int), .bl false]]) (dd := .lst (st.map Prt.d)) (d' := .lst ((st ++ [Prt.mk ((s + e) / 2) e b1] ++ [Prt.mk s ((s + e) / 2) false]).map Prt.d)) rfl rfl rfl hf (by rw [List.length_map]; show st.length + 2 < _; omega) rfl (by
      rw [List.map_append, List.map_append, List.append_assoc]
      rfl)]
    rfl
  have pw : ∀ b1 : Bool, ¬ e - s = 1 → wts (st ++ [Prt.mk ((s + e) / 2) e b1] ++ [Prt.mk s ((s + e) / 2) false]) + 1 ≤ wts st + (2 * (e - s) - 1) ∧ (∀ r ∈ st ++ [Prt.mk ((s + e) / 2) e b1] ++ [Prt.mk s ((s + e) / 2) false], r ∈ st ∨ r.ok xs.length) ∧ (st ++ [(Prt.mk ((s + e) / 2) e b1 : Prt)] ++ [Prt.mk s ((s + e) / 2) false]).length ≤ st.length + 2 ∧
      outs xs p (st ++ [Prt.mk ((s + e) / 2) e b1] ++ [Prt.mk s ((s + e) / 2) false]) = pf xs p s ((s + e) / 2) false ++ pf xs p ((s + e) / 2) e b1 ++ outs xs p st := fun b1 h => by
    refine ⟨?_, fun r hr => ?_, by simp, by rw [outs_snoc, outs_snoc, List.append_assoc]⟩
    · rw [wts_snoc, wts_snoc]
      show wts st + (2 * (e - (s + e) / 2) - 1) + (2 * ((s + e) / 2 - s) - 1) + 1 ≤ _
      omega
    · rcases List.mem_append.mp hr with h1 | h1
      · rcases List.mem_append.mp h1 with h2 | h2
        · exact .inl h2
        · rw [List.mem_singleton.mp h2]
          exact .inr ⟨by show (s + e) / 2 < e; omega, he⟩
      · rw [List.mem_singleton.mp h1]
        exact .inr ⟨by show s < (s + e) / 2; omega, by show (s + e) / 2 ≤ xs.length; omega⟩
  cases h1 : sm xs s e (p + 1) with
  | false =>
    have t1 := (tg (p + 1)).mpr h1
    rw [if_pos t1, if_pos rfl]
    by_cases sl : e - s = 1
    · rw [if_pos (ei.mpr sl), if_pos sl]
      refine ⟨st, bs ++ [bitz (xs.getD s 0) p], some (.int s), some (.int e), some (.bl b), some (.int (((s + e) / 2 : Nat) : Int)), some (.int top), ?_, fun r hr => .inl hr, by omega, by simp, by omega, by rw [List.append_assoc]⟩
      rw [augS_str (a := bs) (b := [bitz (xs.getD s 0) p]) (by walk_at "ev") (by
        walk_at "ev"
        rw [fdivD_big hpz (by
          rw [Int.natAbs_pow]
          exact Nat.pow_lt_pow_right (by decide) (by omega))]
        walk_at "ev"
        rw [tone sl]
        have hbm : ab (xs.getD s 0) / 2 ^ p % 2 = if bitz (xs.getD s 0) p then 1 else 0 := by
          have h : R.ok (D.int (Builtin.bitAnd (ab (xs.getD s 0) / 2 ^ p) 1)) = R.ok (D.int (if bitz (xs.getD s 0) p then 1 else 0)) := bit_of (xs.getD s 0) p
          injection h with h
          injection h with h
          rw [bitAnd_m1] at h
          exact h
        rw [hbm, strD_01]) (by show _ + 1 ≤ _; omega)]
      rfl
    · rw [if_neg (fun z => sl (ei.mp z)), if_neg sl]
      walk_at "ev"
      rw [if_pos t1]
      obtain ⟨w1, w2, w3, w4⟩ := pw false sl
      exact ⟨_, bs, _, _, _, _, _, push false _ bs sl _ (by walk_at "ev"), w2, w1, by omega, w3, by rw [w4, List.append_assoc]⟩
  | true =>
    have t1 : ¬ (2 : Int) ^ (p + 1) ≤ top := fun z => by rw [(tg (p + 1)).mp z] at h1; cases h1
    rw [if_neg t1, if_neg (show ¬ (true = false) by decide)]
    walk_at "ev"
    rw [if_neg t1]
    have sg : ∀ as : List Bool, as.length ≤ bs.length + 1 → ∀ B0 : List Bool, as = bs ++ B0 → ∃ st' bs' x5 x6 x7 x8 x9, (ifS (andT (boolR (op2 geD (varE 9) (varE 2))) (boolR (op2 eqD (op2 subD (varE 6) (varE 5)) (cE (.int 1))))) (augS 4 addI (callB strD (consA (callB intD (consA (op2 ltD (op2 ixD (varE 0) (varE 5)) (cE (.int 0))) nilA)) nilA))) (ifS (boolR (op2 geD (varE 9) (varE 2))) (seqS (asgS 7 (callB allD (consA (lcE [10] (itV itemsR (slG (varE 0) (someO (varE 5)) (someO (varE 8)))) (tgN 10) yesT (op2 ltD (callB absD (consA (varE 10) nilA)) (varE 2))) nilA)))
    (extP 3 noP (lstE (consA (tupE (consA (imm (varE 8)) (consA (imm (varE 6)) (consA (imm (varE 7)) nilA)))) (consA (tupE (consA (imm (varE 5)) (consA (imm (varE 8)) (consA (cE (.bl false)) nilA)))) nilA))))) nilS))
        [some (.lst (xs.map D.int)), some (.int p), some (.int (2 ^ p)), some (.lst (st.map Prt.d)), some (.str (stB as)), some (.int s), some (.int e), some (.bl b), some (.int (((s + e) / 2 : Nat) : Int)), some (.int top), none] = .nx (envW xs p st' bs' x5 x6 x7 x8 x9) ∧ (∀ r ∈ st', r ∈ st ∨ r.ok xs.length) ∧ wts st' + 1 ≤ wts st + (2 * (e - s) - 1) ∧ bs'.length ≤ bs.length + 2 ∧ st'.length ≤ st.length + 2 ∧
        bs' ++ outs xs p st' = bs ++ ((B0 ++ if sm xs s e p = true then [] else if e - s = 1 then [decide (xs.getD s 0 < 0)] else pf xs p s ((s + e) / 2) false ++ pf xs p ((s + e) / 2) e (sm xs s ((s + e) / 2) p)) ++ outs xs p st) := fun as ha B0 hB => by
      walk_at "ev"
      cases h0 : sm xs s e p with
      | true =>
        have t0 : ¬ (2 : Int) ^ p ≤ top := fun z => by rw [(tg p).mp z] at h0; cases h0
        rw [if_neg t0, if_neg t0]
        exact ⟨st, as, _, _, _, _, _, rfl, fun r hr => .inl hr, by omega, by omega, by omega, by rw [hB]; simp⟩
      | false =>
        have t0 := (tg p).mpr h0
        rw [if_pos t0, if_pos t0, if_neg (show ¬ (false = true) by decide)]
        by_cases sl : e - s = 1
        · rw [if_pos (ei.mpr sl), if_pos sl]
          refine ⟨st, as ++ [decide (xs.getD s 0 < 0)], some (.int s), some (.int e), some (.bl b), some (.int (((s + e) / 2 : Nat) : Int)), some (.int top), ?_, fun r hr => .inl hr, by omega, by rw [List.length_append]; show _ + 1 ≤ _; omega, by omega, by rw [hB]; simp⟩
          rw [augS_str (a := as) (b := [decide (xs.getD s 0 < 0)]) (by walk_at "ev") (by
            walk_at "ev"
            rw [ixD_ints (by omega) (by omega), Int.toNat_natCast]
            walk_at "ev"
            rw [intD_bl]
            walk_at "ev"
            rw [strD_if]) (by show _ + 1 ≤ _; omega)]
          rfl
        · rw [if_neg (fun z => sl (ei.mp z)), if_neg sl]
          rw [lcE_map (g := gLt (2 ^ p)) (ds := (seg xs s ((s + e) / 2)).map D.int) (by
            unfold itV
            rw [slG_seg (xs := xs) (s := s) (e := (s + e) / 2) (by walk_at "ev") (by unfold someO; walk_at "ev") (by unfold someO; walk_at "ev") (by omega) (by omega)]
            rfl) (le_line1000 (by rw [List.length_map, seg_len xs (by omega)]; omega)) (by
            intro d hd
            obtain ⟨z, _, rfl⟩ := List.mem_map.mp hd
            refine ⟨_, rfl, ?_⟩
            show op2 ltD _ _ [_, _, some (.int (2 ^ p)), _, _, _, _, _, _, _, some (.int z)] = _
            walk_at "ev"
            rfl)]
          walk_at "ev"
          rw [show ((seg xs s ((s + e) / 2)).map D.int).map (gLt (2 ^ p)) = ((seg xs s ((s + e) / 2)).map fun z => decide (ab z < 2 ^ p)).map D.bl by rw [List.map_map, List.map_map]; rfl, allD_bls]
          walk_at "ev"
          have hall : (((seg xs s ((s + e) / 2)).map fun z => decide (ab z < 2 ^ p)).all id) = sm xs s ((s + e) / 2) p := by
            have := absm xs s ((s + e) / 2) p
            cases h3 : sm xs s ((s + e) / 2) p with
            | true =>
              rw [List.all_eq_true]
              intro y hy
              obtain ⟨z, hz, rfl⟩ := List.mem_map.mp hy
              exact decide_eq_true (this.mpr h3 _ (List.mem_map.mpr ⟨z, hz, rfl⟩))
            | false =>
              refine Bool.eq_false_iff.mpr fun k => ?_
              rw [List.all_eq_true] at k
              have : sm xs s ((s + e) / 2) p = true := this.mp fun y hy => by
                obtain ⟨z, hz, rfl⟩ := List.mem_map.mp hy
                exact of_decide_eq_true (k _ (List.mem_map.mpr ⟨z, hz, rfl⟩))
              rw [h3] at this
              cases this
          rw [hall]
          obtain ⟨w1, w2, w3, w4⟩ := pw (sm xs s ((s + e) / 2) p) sl
          exact ⟨_, as, _, _, _, _, _, push (sm xs s ((s + e) / 2) p) _ as sl _ (by walk_at "ev"), w2, w1, by omega, w3, by rw [w4, hB]; simp⟩
    cases b with
    | true =>
      obtain ⟨st', bs', y5, y6, y7, y8, y9, q1, q2⟩ := sg bs (by omega) [] (by rw [List.append_nil])
      exact ⟨st', bs', y5, y6, y7, y8, y9, by
        refine Eq.trans ?_ q1
        walk_at "ev", q2⟩
    | false =>
      obtain ⟨st', bs', y5, y6, y7, y8, y9, q1, q2⟩ := sg (bs ++ [!sm xs s e p]) (by simp) [!sm xs s e p] rfl
      refine ⟨st', bs', y5, y6, y7, y8, y9, ?_, q2⟩
      walk_at "ev"
      rw [augS_str (a := bs) (b := [!sm xs s e p]) (by walk_at "ev") (by
        walk_at "ev"
        rw [intD_bl]
        walk_at "ev"
        have eb : decide ((2 : Int) ^ p ≤ top) = !sm xs s e p := by
          cases h0 : sm xs s e p with
          | true => exact decide_eq_false fun z => by rw [(tg p).mp z] at h0; cases h0
          | false => exact decide_eq_true ((tg p).mpr h0)
        rw [strD_if, eb]) (by show _ + 1 ≤ _; omega)]
      refine Eq.trans ?_ q1
      walk_at "ev"
theorem fl_prts (st : List Prt) : Fl 2 (.lst (st.map Prt.d)) := .lst fun x hx => by
  obtain ⟨q, _, rfl⟩ := List.mem_map.mp hx
  refine .tup fun y hy => ?_
  rcases List.mem_cons.mp hy with h | hy
  · rw [h]; exact .int _
  rcases List.mem_cons.mp hy with h | hy
  · rw [h]; exact .int _
  rw [List.mem_singleton.mp hy]
  exact .bl _
theorem tst_W (xs : List Int) (p : Nat) (st : List Prt) (bs : List Bool) (x5 x6 x7 x8 x9 : Option D) : tstW (envW xs p st bs x5 x6 x7 x8 x9) = .ok (decide (st ≠ [])) := by
  unfold tstW envW
  walk_at "ev"
  rw [neD_ofFl (n := 2) (d := .lst (st.map Prt.d)) (e := .lst []) (fl_prts st) (fl_prts []) (by decide)]
  cases st with
  | nil => rw [List.map_nil, eqB_nil]; rfl
  | cons q r => rw [List.map_cons, eqB_lst_nil]; rfl
theorem st_wts {n : Nat} : ∀ (st : List Prt), (∀ r ∈ st, r.ok n) → st.length ≤ wts st
  | [], _ => Nat.le_refl _
  | q :: r, h => by
    have h1 := h q List.mem_cons_self
    have h2 := st_wts r fun x hx => h x (List.mem_cons_of_mem _ hx)
    show r.length + 1 ≤ q.w + wts r
    have : 1 ≤ q.w := by
      unfold Prt.w
      have := h1.1
      omega
    omega
theorem loop_W {xs : List Int} {p : Nat} (hxl : xs.length ≤ 4096) (hp : p ≤ 2000) : ∀ (μ : Nat) (st : List Prt) (bs : List Bool) (x5 x6 x7 x8 x9 : Option D), wts st ≤ μ → (∀ r ∈ st, r.ok xs.length) → bs.length + 2 * μ ≤ 100000 →
    ∃ y5 y6 y7 y8 y9, whileL tstW bodyW (μ + 1) (envW xs p st bs x5 x6 x7 x8 x9) = .nx (envW xs p [] (bs ++ outs xs p st) y5 y6 y7 y8 y9) := by
  intro μ
  induction μ with
  | zero =>
    intro st bs x5 x6 x7 x8 x9 hw hr hb
    have := st_wts st hr
    have : st = [] := List.length_eq_zero_iff.mp (by omega)
    subst this
    refine ⟨x5, x6, x7, x8, x9, ?_⟩
    unfold whileL
    rw [tst_W]
    show Sr.nx (envW xs p [] bs x5 x6 x7 x8 x9) = _
    rw [show outs xs p [] = [] from rfl, List.append_nil]
  | succ μ ih =>
    intro st bs x5 x6 x7 x8 x9 hw hr hb
    rcases List.eq_nil_or_concat st with h | ⟨st0, q, h⟩
    · subst h
      refine ⟨x5, x6, x7, x8, x9, ?_⟩
      unfold whileL
      rw [tst_W]
      show Sr.nx (envW xs p [] bs x5 x6 x7 x8 x9) = _
      rw [show outs xs p [] = [] from rfl, List.append_nil]
    · rw [List.concat_eq_append] at h
      subst h
      have hl := st_wts _ hr
      obtain ⟨st', bs', y5, y6, y7, y8, y9, e1, e2, e3, e4, e5, e6⟩ := turn_W hxl hp st0 q bs x5 x6 x7 x8 x9 (hr q (List.mem_append_right _ List.mem_cons_self)) (by omega) (by rw [List.length_append] at hl; omega)
      obtain ⟨z5, z6, z7, z8, z9, g⟩ := ih st' bs' y5 y6 y7 y8 y9 (by omega) (fun r h => (e2 r h).elim (fun k => hr r (List.mem_append_left _ k)) id) (by omega)
      refine ⟨z5, z6, z7, z8, z9, ?_⟩
      unfold whileL
      rw [tst_W, show decide (st0 ++ [q] ≠ []) = true from decide_eq_true (by simp)]
      show (match bodyW (envW xs p (st0 ++ [q]) bs x5 x6 x7 x8 x9) with | .nx ρ2 => whileL tstW bodyW (μ + 1) ρ2 | .ct ρ2 => whileL tstW bodyW (μ + 1) ρ2 | .bk ρ2 => .nx ρ2 | r => r) = _
      rw [e1]
      show whileL tstW bodyW (μ + 1) _ = _
      rw [g, e6]
theorem row_ok {xs : List Int} {p : Nat} (h0 : 0 < xs.length) (hxl : xs.length ≤ 4096) (hp : p ≤ 2000) : m_law_row [.lst (xs.map D.int), .int p] = .ok (.str (stB (rowB xs p))) := by
  rw [r_law_row]
  simp only [b_law_row]
  walk_at "ev"
  rw [shlD_ok (by omega) (by omega) (by decide) (by decide), Int.toNat_natCast, Int.one_mul, stB_nil]
  walk_at "ev"
  obtain ⟨y5, y6, y7, y8, y9, e⟩ := loop_W hxl hp (2 * xs.length) [⟨0, xs.length, false⟩] [] none none none none none (by
    show 2 * (xs.length - 0) - 1 + 0 ≤ _
    omega) (fun r hr => by rw [List.mem_singleton.mp hr]; exact ⟨h0, Nat.le_refl _⟩) (by show 0 + _ ≤ _; omega)
  have e : whileL _ _ _ [some (.lst (xs.map D.int)), some (.int p), some (.int (2 ^ p)), some (.lst [.tup [.int 0, .int xs.length, .bl false]]), some (.str (stB [])), none, none, none, none, none, none] = _ := e
  unfold tstW bodyW at e
  rw [whileS_eq (by rw [e]; exact fun q => nomatch q), e]
  unfold envW
  walk_at "ev"
  unfold rowB outs
  simp [pf]
theorem ifS_nil {t : Vs.Env → R Bool} {a : Vs.Env → Sr} {ρ : Vs.Env} {b : Bool} (h : t ρ = .ok b) : ifS t a nilS ρ = if b = true then a ρ else .nx ρ := by
  unfold ifS
  rw [h, bindS_ok]
  rfl
theorem Go_if {I : Vs.Env → Prop} {t : Vs.Env → R Bool} {i : Nat} {f : Vs.Env → R D} {q : Vs.Env → Sr} {ρ : Vs.Env} {b : Bool} {v : D} (ht : t ρ = .ok b) (h1 : Go I (q ρ)) (hf : f ρ = .ok v) (h2 : Go I (q (ρ.set i (some v)))) : Go I (seqS (ifS t (asgS i f) nilS) q ρ) := by
  rw [seqS_eq, ifS_nil ht]
  cases b with
  | true =>
    rw [if_pos rfl]
    unfold asgS
    rw [hf, bindS_ok]
    exact h2
  | false =>
    rw [if_neg Bool.false_ne_true]
    exact h1
theorem n60 {z : Int} (h1 : 0 ≤ z) (h2 : z < 10 ^ 60) : ln z ≤ 201 := by
  rw [ln_le]
  have : ((2 : Nat) ^ 201 : Nat) > ((10 : Int) ^ 60).toNat := by decide
  omega
theorem neg60 {z : Int} (h : ln z ≤ 201) : ln (0 - z) ≤ 201 := by
  have : (0 - z).natAbs = z.natAbs := by omega
  rw [ln_le, this]
  exact ln_le.mp h
theorem ab_bits {n : Nat} {z : Int} (h : Bits n z) : Bits n (ab z) := by rw [ab_nat]; exact ⟨by rw [Int.natAbs_natCast]; exact h.lt⟩
theorem andT_ok {t u : Vs.Env → R Bool} {ρ : Vs.Env} {a b : Bool} (h1 : t ρ = .ok a) (h2 : u ρ = .ok b) : andT t u ρ = .ok (a && b) := by
  unfold andT
  rw [h1, R.bind_ok]
  cases a with
  | true => rw [if_pos rfl, h2]; rfl
  | false => rfl
theorem some_ok {cs : List Int} (hb : ∀ z ∈ cs, Bits 1048576 z) (hl : cs.length ≤ 40) {w : Int} (w0 : 0 ≤ w) (w4 : w < 4) : ∃ zs : List Int, m_law_some [.lst (cs.map D.int), .int w] = .ok (.lst (zs.map D.int)) ∧ 0 < zs.length ∧ zs.length ≤ 41 ∧ ∀ z ∈ zs, ln z ≤ 201 := by
  rw [r_law_some]
  simp only [b_law_some]
  walk_at "ev"
  simp only [forS, itR]
  walk_at "ev"
  rw [enumR]
  walk_at "ev"
  refine body_forE (fun t ρ => ∃ (zs : List Int) (x3 x4 x5 : Option D), zs.length = t ∧ (∀ z ∈ zs, ln z ≤ 201) ∧ ρ = [some (.lst (cs.map D.int)), some (.int w), some (.lst (zs.map D.int)), x3, x4, x5])
    ⟨[], none, none, none, rfl, (fun z h => nomatch h), rfl⟩ (fun t d hd ρ hi => ?_) (fun ρ ⟨zs, x3, x4, x5, h1, h2, hρ⟩ => ?_)
  · obtain ⟨zs, x3, x4, x5, h1, h2, rfl⟩ := hi
    obtain ⟨e, he, rfl⟩ := enum_at hd
    rw [List.getElem?_map] at he
    obtain ⟨c, hc, rfl⟩ := Option.map_eq_some_iff.mp he
    have ht : t < cs.length := (List.getElem?_eq_some_iff.mp hc).1
    have hbc := hb c (List.mem_of_getElem? hc)
    have hba := ab_bits hbc
    have hct : Bits 1048577 (c + (t : Int)) := hbc.add ((Bits.of64 (by omega) (by omega) : Bits 64 (t : Int)).mono (by omega))
    refine ⟨_, rfl, ?_⟩
    show Go _ (seqS _ _ [some (.lst (cs.map D.int)), some (.int w), some (.lst (zs.map D.int)), some (.int (t : Int)), some (.int c), x5])
    have hpk : ∃ k : Int, ixD (.lst [.int 1, .int 48271, .int 69621]) (.int ((t : Int) % 3)) = .ok (.int k) ∧ Bits 64 k := by
      have h : (t : Int) % 3 = 0 ∨ (t : Int) % 3 = 1 ∨ (t : Int) % 3 = 2 := by omega
      rcases h with h | h | h <;> rw [h]
      · exact ⟨1, ix0_lst _ _, Bits.of64 (by decide) (by decide)⟩
      · exact ⟨48271, ix1_lst _ _ _, Bits.of64 (by decide) (by decide)⟩
      · exact ⟨69621, ix2_lst _ _ _ _, Bits.of64 (by decide) (by decide)⟩
    obtain ⟨k, hk, bk⟩ := hpk
    have hpm : ∃ m : Int, ixD (.lst [.int 40, .int 1000, .int 4, .int (10 ^ 60)]) (.int w) = .ok (.int m) ∧ 0 < m ∧ m ≤ 10 ^ 60 := by
      have h : w = 0 ∨ w = 1 ∨ w = 2 ∨ w = 3 := by omega
      rcases h with h | h | h | h <;> rw [h]
      · exact ⟨40, ix0_lst _ _, by decide, by decide⟩
      · exact ⟨1000, ix1_lst _ _ _, by decide, by decide⟩
      · exact ⟨4, ix2_lst _ _ _ _, by decide, by decide⟩
      · exact ⟨10 ^ 60, ix3_lst _ _ _ _ _, by decide, by decide⟩
    obtain ⟨m, hm, m0, m1⟩ := hpm
    have hp60 : (0 : Int) < 10 ^ 60 := by decide
    rw [seqS_eq]
    have ez : asgS 5 (op2 modD (op2 mulD (callB absD (consA (varE 4) nilA)) (op2 ixD (lstE (consA (cE (.int 1)) (consA (cE (.int 48271)) (consA (cE (.int 69621)) nilA)))) (op2 modD (varE 3) (cE (.int 3))))) (op2 ixD (lstE (consA (cE (.int 40)) (consA (cE (.int 1000)) (consA (cE (.int 4)) (consA (op2 powD (cE (.int 10)) (cE (.int 60))) nilA))))) (varE 1)))
        [some (.lst (cs.map D.int)), some (.int w), some (.lst (zs.map D.int)), some (.int (t : Int)), some (.int c), x5] = .nx [some (.lst (cs.map D.int)), some (.int w), some (.lst (zs.map D.int)), some (.int (t : Int)), some (.int c), some (.int (ab c * k % m))] := by
      walk_at "ev"
      rw [hk]
      walk_at "ev"
      rw [show (if c < 0 then -c else c) = ab c from rfl, mulD_ok (hba.ok bk (by decide))]
      walk_at "ev"
      rw [hm]
      walk_at "ev"
      rw [modD_pos m0]
      walk_at "ev"
    rw [ez]
    show Go _ (seqS _ _ [some (.lst (cs.map D.int)), some (.int w), some (.lst (zs.map D.int)), some (.int (t : Int)), some (.int c), some (.int (ab c * k % m))])
    have fin : ∀ z : Int, ln z ≤ 201 → Go (fun ρ => ∃ (zs : List Int) (x3 x4 x5 : Option D), zs.length = t + 1 ∧ (∀ z ∈ zs, ln z ≤ 201) ∧ ρ = [some (.lst (cs.map D.int)), some (.int w), some (.lst (zs.map D.int)), x3, x4, x5]) (appS 2 (imm (varE 5)) [some (.lst (cs.map D.int)), some (.int w), some (.lst (zs.map D.int)), some (.int (t : Int)), some (.int c), some (.int z)]) := fun z hz => by
      rw [appS_ints (ns := zs) (v := z) (by walk_at "ev") rfl (by omega)]
      refine ⟨zs ++ [z], _, _, _, by rw [List.length_append, h1]; rfl, fun y hy => ?_, rfl⟩
      rcases List.mem_append.mp hy with h | h
      · exact h2 y h
      · rw [List.mem_singleton.mp h]; exact hz
    have sgn : ∀ z : Int, ln z ≤ 201 → Go (fun ρ => ∃ (zs : List Int) (x3 x4 x5 : Option D), zs.length = t + 1 ∧ (∀ z ∈ zs, ln z ≤ 201) ∧ ρ = [some (.lst (cs.map D.int)), some (.int w), some (.lst (zs.map D.int)), x3, x4, x5]) (seqS (ifS (boolR (op2 eqD (op2 modD (op2 modD (op2 mulD (op2 addD (varE 4) (varE 3)) (cE (.int 16807))) (cE (.int 65537))) (cE (.int 2))) (cE (.int 1)))) (asgS 5 (op2 subD (cE (.int 0)) (varE 5))) nilS)
        (appS 2 (imm (varE 5))) [some (.lst (cs.map D.int)), some (.int w), some (.lst (zs.map D.int)), some (.int (t : Int)), some (.int c), some (.int z)]) := fun z hz => by
      refine Go_if (v := .int (0 - z)) (by
        walk_at "ev"
        rw [mulD_ok (hct.ok (Bits.of64 (by decide) (by decide)) (by decide))]
        walk_at "ev"
        rfl) (fin z hz) (by walk_at "ev") (fin (0 - z) (neg60 hz))
    have st3 : ∀ z : Int, ln z ≤ 201 → Go (fun ρ => ∃ (zs : List Int) (x3 x4 x5 : Option D), zs.length = t + 1 ∧ (∀ z ∈ zs, ln z ≤ 201) ∧ ρ = [some (.lst (cs.map D.int)), some (.int w), some (.lst (zs.map D.int)), x3, x4, x5]) (seqS (ifS (andT (boolR (op2 eqD (varE 1) (cE (.int 3)))) (boolR (op2 eqD (op2 modD (varE 3) (cE (.int 3))) (cE (.int 1))))) (asgS 5 (op2 modD (op2 mulD (callB absD (consA (varE 4) nilA)) (op2 addD (op2 powD (cE (.int 10)) (cE (.int 45))) (cE (.int 7)))) (op2 powD (cE (.int 10)) (cE (.int 60))))) nilS)
        (seqS (ifS (boolR (op2 eqD (op2 modD (op2 modD (op2 mulD (op2 addD (varE 4) (varE 3)) (cE (.int 16807))) (cE (.int 65537))) (cE (.int 2))) (cE (.int 1)))) (asgS 5 (op2 subD (cE (.int 0)) (varE 5))) nilS)
        (appS 2 (imm (varE 5)))) [some (.lst (cs.map D.int)), some (.int w), some (.lst (zs.map D.int)), some (.int (t : Int)), some (.int c), some (.int z)]) := fun z hz => by
      refine Go_if (v := .int (ab c * (10 ^ 45 + 7) % 10 ^ 60)) (andT_ok (a := decide (w = 3)) (b := decide ((t : Int) % 3 = 1)) (by walk_at "ev") (by walk_at "ev")) (sgn z hz) (by
        walk_at "ev"
        rw [show (if c < 0 then -c else c) = ab c from rfl, mulD_ok (hba.ok (⟨by decide⟩ : Bits 200 ((10 : Int) ^ 45 + 7)) (by decide))]
        walk_at "ev"
        rw [modD_pos hp60]) (sgn _ (n60 (Int.emod_nonneg _ (Int.ne_of_gt hp60)) (Int.emod_lt_of_pos _ hp60)))
    refine Go_if (v := .int 0) (andT_ok (a := decide (w = 1)) (b := decide (0 < (c + (t : Int)) * 40692 % 2147483399 % 5)) (by walk_at "ev") (by
      walk_at "ev"
      rw [mulD_ok (hct.ok (Bits.of64 (by decide) (by decide)) (by decide))]
      walk_at "ev")) (st3 _ (n60 (Int.emod_nonneg _ (Int.ne_of_gt m0)) (Int.lt_of_lt_of_le (Int.emod_lt_of_pos _ m0) m1))) (by walk_at "ev") (st3 0 (n60 (by decide) hp60))
  · subst hρ
    have hz : zs.length ≤ 40 := by rw [enumL_length, List.length_map] at h1; omega
    rw [seqS_eq]
    cases zs with
    | nil =>
      refine ⟨[0], ?_, by decide, by decide, fun z h => ?_⟩
      · simp only [List.map_nil]
        rw [ifS_nil (b := true) (by
          walk_at "ev"
          rw [eqD_ofFl (n := 1) (d := .lst []) (e := .lst []) (fl_lst_ints []) (fl_lst_ints []) (by decide), eqB_nil]
          rfl), if_pos rfl]
        have := appS_ints (i := 2) (f := cE (.int 0)) (ρ := [some (.lst (cs.map D.int)), some (.int w), some (.lst (([] : List Int).map D.int)), x3, x4, x5]) (ns := []) (v := 0) rfl rfl (by decide)
        rw [List.map_nil] at this
        rw [this]
        rfl
      · rw [List.mem_singleton.mp h]
        exact n60 (by decide) (by decide)
    | cons z r =>
      refine ⟨z :: r, ?_, by simp, by omega, h2⟩
      rw [ifS_nil (b := false) (by
        walk_at "ev"
        rw [eqD_ofFl (n := 1) (d := .lst ((z :: r).map D.int)) (e := .lst []) (fl_lst_ints (z :: r)) (fl_lst_ints []) (by decide), List.map_cons, eqB_lst_nil]
        rfl), if_neg Bool.false_ne_true]
      rfl
theorem repD_0 (n : Int) (h0 : 0 ≤ n) (h1 : n ≤ 100000) : repD (.lst [.int 0]) (.int n) = .ok (.lst ((List.replicate n.toNat (0 : Int)).map D.int)) := by
  have e63 : (2 : Int) ^ 63 = 9223372036854775808 := by decide
  unfold repD
  simp only
  rw [if_pos ⟨h0, by show 1 * n.toNat ≤ _; rw [sizeLine_eq]; omega, by rw [e63]; omega, rfl⟩]
  congr 2
  induction n.toNat with
  | zero => rfl
  | succ k ih => rw [List.replicate_succ, List.flatten_cons, ih, List.replicate_succ]; rfl
theorem spread_ok {zs : List Int} (hz : ∀ z ∈ zs, ln z ≤ 201) (hl : zs.length ≤ 41) {c : Int} (hc : Bits 1048577 c) : ∃ ys : List Int, m_law_spread [.lst (zs.map D.int), .int c] = .ok (.lst (ys.map D.int)) ∧ 0 < ys.length ∧ ys.length ≤ 400 ∧ ∀ z ∈ ys, ln z ≤ 201 := by
  rw [r_law_spread]
  simp only [b_law_spread]
  walk_at "ev"
  have m0 : 0 ≤ c % 336 := by omega
  have m1 : c % 336 < 336 := by omega
  rw [repD_0 _ (by omega) (by omega)]
  walk_at "ev"
  simp only [forS, itR]
  walk_at "ev"
  rw [enumR]
  walk_at "ev"
  have hn : ∀ z : Int, z < 400 → -400 < z → ln z ≤ 201 := fun z h1 h2 => by
    rw [ln_le]
    have : (2 : Nat) ^ 201 > 400 := by decide
    omega
  refine body_forE (fun t ρ => ∃ (ys : List Int) (x3 x4 x5 : Option D), ys.length = (65 + c % 336).toNat ∧ (∀ z ∈ ys, ln z ≤ 201) ∧ ρ = [some (.lst (zs.map D.int)), some (.int c), some (.lst (ys.map D.int)), x3, x4, x5])
    ⟨_, none, none, none, List.length_replicate, (fun z h => by rw [List.eq_of_mem_replicate h]; exact hn 0 (by decide) (by decide)), rfl⟩ (fun t d hd ρ hi => ?_) (fun ρ ⟨ys, x3, x4, x5, h1, h2, hρ⟩ => ?_)
  · obtain ⟨ys, x3, x4, x5, h1, h2, rfl⟩ := hi
    obtain ⟨e, he, rfl⟩ := enum_at hd
    rw [List.getElem?_map] at he
    obtain ⟨z, hcz, rfl⟩ := Option.map_eq_some_iff.mp he
    have ht : t < zs.length := (List.getElem?_eq_some_iff.mp hcz).1
    have hbz : Bits 201 z := ⟨ln_le.mp (hz z (List.mem_of_getElem? hcz))⟩
    refine ⟨_, rfl, ?_⟩
    show Go _ (seqS _ _ [some (.lst (zs.map D.int)), some (.int c), some (.lst (ys.map D.int)), some (.int (t : Int)), some (.int z), x5])
    have hL : 0 < (ys.length : Int) := by omega
    walk_at "ev"
    have b7 : Bits 64 (7 * (t : Int)) := Bits.of64 (by omega) (by omega)
    have bt : Bits 64 (t : Int) := Bits.of64 (by omega) (by omega)
    rw [mulD_ok ((Bits.of64 (by decide) (by decide) : Bits 64 7).ok bt (by decide))]
    walk_at "ev"
    rw [mulD_ok (b7.ok bt (by decide))]
    walk_at "ev"
    rw [mulD_ok (((((hbz.mono (show 201 ≤ 1048577 by omega)).add ((b7.mul bt).mono (show _ ≤ 1048577 by omega)))).add (hc.mono (by omega))).ok (Bits.of64 (by decide) (by decide)) (by decide))]
    walk_at "ev"
    rw [modD_pos hL]
    walk_at "ev"
    have a1 := Int.emod_nonneg ((z + 7 * (t : Int) * (t : Int) + c) * 48271 % 2147483647) (Int.ne_of_gt hL)
    have a2 := Int.emod_lt_of_pos ((z + 7 * (t : Int) * (t : Int) + c) * 48271 % 2147483647) hL
    generalize (z + 7 * (t : Int) * (t : Int) + c) * 48271 % 2147483647 % (ys.length : Int) = a at a1 a2
    rw [setS_ints (ns := ys) (k := a) (v := z % 15 - 7) (by walk_at "ev") rfl (by walk_at "ev") a1 a2]
    refine ⟨ys.set a.toNat (z % 15 - 7), _, _, _, by rw [List.length_set]; exact h1, fun y hy => ?_, rfl⟩
    rcases List.mem_or_eq_of_mem_set hy with h | h
    · exact h2 y h
    · rw [h]; exact hn _ (by omega) (by omega)
  · subst hρ
    exact ⟨ys, rfl, by omega, by omega, h2⟩
def gAny (k : Nat) : D → D
  | .int z => .bl (decide (0 < ab z / 2 ^ k))
  | x => x
theorem planesL {xs : List Int} (hz : ∀ z ∈ xs, ln z ≤ 201) (hl : xs.length ≤ 4096) (x0 x1 x2 x4 x6 x7 x8 x9 : Option D) : ∀ (r k : Nat), k + r = 201 →
    ∃ K, K ≤ 201 ∧ whileL (boolR (callB anyD (consA (lcE [8] (itV itemsR (varE 3)) (tgN 8) yesT (op2 gtD (op2 shrD (callB absD (consA (varE 8) nilA)) (varE 5)) (cE (.int 0)))) nilA))) (augS 5 addI (cE (.int 1))) (r + 1) [x0, x1, x2, some (.lst (xs.map D.int)), x4, some (.int k), x6, x7, x8, x9] =
      .nx [x0, x1, x2, some (.lst (xs.map D.int)), x4, some (.int (K : Nat)), x6, x7, x8, x9] := by
  have hany : ∀ k : Nat, boolR (callB anyD (consA (lcE [8] (itV itemsR (varE 3)) (tgN 8) yesT (op2 gtD (op2 shrD (callB absD (consA (varE 8) nilA)) (varE 5)) (cE (.int 0)))) nilA)) [x0, x1, x2, some (.lst (xs.map D.int)), x4, some (.int k), x6, x7, x8, x9] =
      .ok ((xs.map fun z => decide (0 < ab z / 2 ^ k)).any id) := fun k => by
    walk_at "ev"
    rw [lcE_map (g := gAny k) (ds := xs.map D.int) (by
      unfold itV
      walk_at "ev"
      rfl) (le_line1000 (by rw [List.length_map]; omega)) (by
      intro d hd
      obtain ⟨z, _, rfl⟩ := List.mem_map.mp hd
      refine ⟨_, rfl, ?_⟩
      show op2 gtD _ _ [_, _, _, _, _, some (.int k), _, _, some (.int z), _] = _
      walk_at "ev"
      rw [shrD_ok (by omega), Int.toNat_natCast]
      walk_at "ev"
      rfl)]
    walk_at "ev"
    rw [show (xs.map D.int).map (gAny k) = (xs.map fun z => decide (0 < ab z / 2 ^ k)).map D.bl by rw [List.map_map, List.map_map]; rfl, anyD_bls]
    walk_at "ev"
  intro r
  induction r with
  | zero =>
    intro k hk
    refine ⟨k, by omega, ?_⟩
    unfold whileL
    rw [hany, bindS_ok]
    have : ((xs.map fun z => decide (0 < ab z / 2 ^ k)).any id) = false := by
      rw [List.any_eq_false]
      intro y hy
      obtain ⟨z, h, rfl⟩ := List.mem_map.mp hy
      have := hz z h
      have h2 : ¬ 0 < ab z / 2 ^ k := fun q => by
        have := (shr_pos z k).mp q
        omega
      simp only [id, decide_eq_false h2]
      exact Bool.false_ne_true
    rw [this, if_neg Bool.false_ne_true]
  | succ r ih =>
    intro k hk
    unfold whileL
    rw [hany, bindS_ok]
    cases h : ((xs.map fun z => decide (0 < ab z / 2 ^ k)).any id) with
    | false => exact ⟨k, by omega, by rw [if_neg Bool.false_ne_true]⟩
    | true =>
      rw [if_pos rfl]
      unfold augS
      walk_at "ev"
      obtain ⟨K, h1, h2⟩ := ih (k + 1) (by omega)
      refine ⟨K, h1, Eq.trans ?_ h2⟩
      rfl
def gRow (xs : List Int) : D → D
  | .int p => .str (stB (rowB xs p.toNat))
  | x => x
theorem cell_bits {ns : List Int} (hs : Scr ns) (k : Int) : Bits 1048576 (cell ns k) := by
  unfold cell
  rw [List.getD_eq_getElem?_getD]
  by_cases h : k.toNat < ns.length
  · rw [List.getElem?_eq_getElem h]
    exact Bits.of_int (hs.2 _ (List.getElem_mem h))
  · rw [List.getElem?_eq_none (by omega)]
    exact ⟨Nat.pow_pos (by decide)⟩
theorem cut_ok {ns : List Int} (hs : Scr ns) (e : Nat) : (∀ z ∈ cutL ns (some (2 : Int)) (some (e : Int)), Bits 1048576 z) ∧ (cutL ns (some (2 : Int)) (some (e : Int))).length ≤ e := by
  unfold cutL
  refine ⟨fun z hz => Bits.of_int (hs.2 z (List.mem_of_mem_drop (List.mem_of_mem_take hz))), ?_⟩
  rw [List.length_take, HT.sIx_nat]
  omega
theorem law_true : ∀ ns, Scr ns → m_law [.lst (ns.map D.int)] = .ok (.bl true) := by
  intro ns hs
  rw [r_law]
  simp only [b_law]
  walk_at "ev"
  rw [cell_at _ _ (by decide)]
  walk_at "ev"
  have w0 : 0 ≤ cell ns 0 % 4 := by omega
  have w4 : cell ns 0 % 4 < 4 := by omega
  rw [slG_ints (ns := ns) (l := some 2) (u := some 42) (by walk_at "ev") rfl rfl, bindS_ok]
  simp only [seq_nx, List.set_cons_succ, List.set_cons_zero]
  generalize cell ns 0 % 4 = w at w0 w4
  have hc : ∃ cs : List Int, (∀ z ∈ cs, Bits 1048576 z) ∧ cs.length ≤ 40 ∧ ifS (boolR (op2 eqD (varE 1) (cE (.int 3)))) (asgS 2 (slG (varE 0) (someO (cE (.int 2))) (someO (cE (.int 7))))) nilS [some (.lst (ns.map D.int)), some (.int w), some (.lst ((cutL ns (some 2) (some 42)).map D.int)), none, none, none, none, none, none, none] =
      .nx [some (.lst (ns.map D.int)), some (.int w), some (.lst (cs.map D.int)), none, none, none, none, none, none, none] := by
    rw [ifS_nil (b := decide (w = 3)) (by walk_at "ev")]
    by_cases h : w = 3
    · rw [decide_eq_true h, if_pos rfl]
      have := cut_ok hs 7
      refine ⟨_, this.1, by have := this.2; omega, ?_⟩
      unfold asgS
      rw [slG_ints (ns := ns) (l := some 2) (u := some 7) (by walk_at "ev") rfl rfl]
      rfl
    · rw [decide_eq_false h, if_neg Bool.false_ne_true]
      refine ⟨_, (cut_ok hs 42).1, ?_, rfl⟩
      have h42 := (cut_ok hs 42).2
      unfold cutL
      rw [List.length_take, List.length_drop, show (some (2 : Int)) = some ((2 : Nat) : Int) from rfl, HT.sIx_nat, HT.sIx_nat]
      omega
  obtain ⟨cs, c1, c2, c3⟩ := hc
  rw [seqS_eq, c3]
  walk_at "ev"
  obtain ⟨zs, ez, z0, z1, z2⟩ := some_ok c1 c2 w0 w4
  rw [ez, bindS_ok]
  simp only [seq_nx, List.set_cons_succ, List.set_cons_zero]
  have hx : ∃ xs : List Int, 0 < xs.length ∧ xs.length ≤ 400 ∧ (∀ z ∈ xs, ln z ≤ 201) ∧ ifS (boolR (op2 eqD (op2 modD (op2 fdivD (callF m_law_cell_at (consA (varE 0) (consA (cE (.int 0)) nilA))) (cE (.int 4))) (cE (.int 8))) (cE (.int 3)))) (asgS 3 (callF m_law_spread (consA (varE 3) (consA (op2 fdivD (callF m_law_cell_at (consA (varE 0) (consA (cE (.int 1)) nilA))) (cE (.int 4))) nilA)))) nilS [some (.lst (ns.map D.int)), some (.int w), some (.lst (cs.map D.int)), some (.lst (zs.map D.int)), none, none, none, none, none, none] =
      .nx [some (.lst (ns.map D.int)), some (.int w), some (.lst (cs.map D.int)), some (.lst (xs.map D.int)), none, none, none, none, none, none] := by
    rw [ifS_nil (b := decide (cell ns 0 / 4 % 8 = 3)) (by
      walk_at "ev"
      rw [cell_at _ _ (by decide)]
      walk_at "ev")]
    by_cases h : cell ns 0 / 4 % 8 = 3
    · rw [decide_eq_true h, if_pos rfl]
      have hb : Bits 1048577 (cell ns 1 / 4) := ((cell_bits hs 1).mono (by omega)).le (by omega)
      obtain ⟨ys, ey, y0, y1, y2⟩ := spread_ok z2 z1 hb
      refine ⟨ys, y0, y1, y2, ?_⟩
      walk_at "ev"
      rw [cell_at _ _ (by decide)]
      walk_at "ev"
      rw [ey]
      walk_at "ev"
    · rw [decide_eq_false h, if_neg Bool.false_ne_true]
      exact ⟨zs, z0, by omega, z2, rfl⟩
  obtain ⟨xs, x0, x1, x2, x3⟩ := hx
  rw [seqS_eq, x3]
  walk_at "ev"
  rw [listD_ints]
  walk_at "ev"
  obtain ⟨K, hK, eK⟩ := planesL x2 (by omega) (some (.lst (ns.map D.int))) (some (.int w)) (some (.lst (cs.map D.int))) (some (.lst (xs.map D.int))) none none none none 201 0 rfl
  have eK : whileL _ _ _ [some (.lst (ns.map D.int)), some (.int w), some (.lst (cs.map D.int)), some (.lst (xs.map D.int)), some (.lst (xs.map D.int)), some (.int 0), none, none, none, none] = _ := eK
  rw [whileS_eq (by rw [eK]; exact fun q => nomatch q), eK]
  walk_at "ev"
  unfold augS
  walk_at "ev"
  rw [cell_at _ _ (by decide)]
  walk_at "ev"
  have m0 : 0 ≤ cell ns 1 % 4 := by omega
  have m4 : cell ns 1 % 4 < 4 := by omega
  rw [show addI (.int (K : Int)) (.int (cell ns 1 % 4)) = .ok (.int ((K : Int) + cell ns 1 % 4)) from rfl, show (K : Int) + cell ns 1 % 4 = ((K + (cell ns 1 % 4).toNat : Nat) : Int) by omega]
  have hP : K + (cell ns 1 % 4).toNat ≤ 204 := by omega
  generalize K + (cell ns 1 % 4).toNat = P at hP
  walk_at "ev"
  have hbd : P * (4 * xs.length) ≤ 204 * 1600 := Nat.mul_le_mul hP (by omega)
  rw [told_ok x0 (by omega) (by omega) (by omega)]
  walk_at "ev"
  rw [lcE_map (g := gRow xs) (ds := rngC ((P : Int) - 1) (-1) P) (by
    unfold itR
    walk_at "ev"
    exact rngS_down P (by omega)) (le_line1000 (by rw [rngC_length]; omega)) (by
    intro d hd
    obtain ⟨i, hi⟩ := List.mem_iff_getElem?.mp hd
    obtain ⟨h1, rfl⟩ := down_at hi
    refine ⟨_, rfl, ?_⟩
    show callF m_law_row _ [some (.lst (ns.map D.int)), some (.int w), some (.lst (cs.map D.int)), some (.lst (xs.map D.int)), some (.lst (xs.map D.int)), some (.int P), some (.str (stB (tld xs P))), none, none, some (.int ((P - 1 - i : Nat) : Int))] = _
    walk_at "ev"
    rw [row_ok x0 (by omega) (by omega)]
    rfl)]
  walk_at "ev"
  have er : (rngC ((P : Int) - 1) (-1) P).map (gRow xs) = (((List.range P).map fun k => rowB xs (P - 1 - k)).map stB).map D.str := by
    unfold rngC
    rw [List.map_map, List.map_map, List.map_map]
    refine List.map_congr_left fun k hk => ?_
    have := List.mem_range.mp hk
    show D.str (stB (rowB xs ((P : Int) - 1 + (k : Int) * (-1)).toNat)) = D.str (stB (rowB xs (P - 1 - k)))
    rw [show ((P : Int) - 1 + (k : Int) * (-1)).toNat = P - 1 - k by omega]
  rw [er]
  unfold m1E
  walk_at "ev"
  rw [stB_nil, joinG_stB _ (by
    have := tld_len xs P x0
    unfold tld at this
    rw [List.flatMap_def] at this
    omega)]
  walk_at "ev"
  rw [show ((List.range P).map fun k => rowB xs (P - 1 - k)).flatten = tld xs P by unfold tld; rw [List.flatMap_def], eqD_stB]
  walk_at "ev"
  rw [eqD_self (n := 1) (fl_lst_ints xs) (by decide)]
  walk_at "ev"
end Lw

namespace Lw
open PySem PySem.Spec PyProof.Rows L2 Vs
theorem all_mk {w : World} {K : PySem.W.Frag} {h : Heap} {mg : Str → Option Value} {fa : Addr} (X : K.In h) (G : h.Ns mainGlobals mg) (hfa : mg "law" = some (.ref fa)) (d_part_told : DefK K "part_told" s_part_told) (d_told : DefK K "told" s_told) (d_law_cell_at : DefK K "_law_cell_at" s_law_cell_at) (d_law_some : DefK K "_law_some" s_law_some) (d_law_spread : DefK K "_law_spread" s_law_spread) (d_law_row : DefK K "_law_row" s_law_row) (d_law : DefK K "law" s_law) (n_abs : NoK K "abs") (n_all : NoK K "all") (n_any : NoK K "any") (n_enumerate : NoK K "enumerate") (n_int : NoK K "int") (n_isinstance : NoK K "isinstance") (n_len : NoK K "len") (n_list : NoK K "list") (n_max : NoK K "max") (n_range : NoK K "range") (n_str : NoK K "str") :
    ∃ fd : FuncData, (∀ (s : Shared) (u : Value), BindsTo s fd ⟨[u], []⟩ [("_law_script", u)]) ∧ ∀ base : Heap, K.In base → base.Ns mainGlobals mg → FnOk PySem.Challenge.rw_liftwave_k22_told_plainly.prog w K mg base (L2.CX PySem.Challenge.rw_liftwave_k22_told_plainly.prog w) 17 fa fd ["_law_script"] (spLaw K) := by
  have T : Txt K mg := ⟨no_of X G n_abs, no_of X G n_all, no_of X G n_any, no_of X G n_enumerate, no_of X G n_int, no_of X G n_isinstance, no_of X G n_len, no_of X G n_list, no_of X G n_max, no_of X G n_range, no_of X G n_str⟩
  refine law_end (k := 16) (N := ["_law_script", "_law_way", "_law_cells", "_law_some_here", "_law_kept", "_law_planes", "_law_found", "_law_due", "_law_number", "_law_plane"]) (b := b_law) (own' := []) (defL_of X G hfa d_law) sc_law (by decide) (fun _ _ _ _ _ _ s v => .of_eq rfl) (fun base _ _ => ?_) Lw.law_true
  have k_part_told := c_part_told (P := PySem.Challenge.rw_liftwave_k22_told_plainly.prog) (w := w) (base := base) T (def_of X G d_part_told)
  have k_told := c_told (P := PySem.Challenge.rw_liftwave_k22_told_plainly.prog) (w := w) (base := base) T (def_of X G d_told) k_part_told
  have k_law_cell_at := c_law_cell_at (P := PySem.Challenge.rw_liftwave_k22_told_plainly.prog) (w := w) (base := base) T (def_of X G d_law_cell_at)
  have k_law_some := c_law_some (P := PySem.Challenge.rw_liftwave_k22_told_plainly.prog) (w := w) (base := base) T (def_of X G d_law_some)
  have k_law_spread := c_law_spread (P := PySem.Challenge.rw_liftwave_k22_told_plainly.prog) (w := w) (base := base) T (def_of X G d_law_spread)
  have k_law_row := c_law_row (P := PySem.Challenge.rw_liftwave_k22_told_plainly.prog) (w := w) (base := base) T (def_of X G d_law_row)
  exact v_law T k_law_cell_at k_law_some k_law_spread k_told k_law_row
end Lw
open PySem PySem.W PyProof.Rows in
set_option maxRecDepth 100000 in
set_option maxHeartbeats 0 in
theorem PySem.Challenge.cw_liftwave_k22_told_plainly_holds : PySem.Challenge.rw_liftwave_k22_told_plainly.Holds := by
  w_on; o_law; k_head; (case hw => w_witness2)
  k_fill
  refine Vs.walk (l := PySem.Challenge.rw_liftwave_k22_told_plainly) (k := 17) rfl rfl ⟨rfl, by decide, by decide⟩ (fun w h Y => PySem.W.kIn_of Y) ?F
  case F =>
    intro w mg fa h KX G hmg
    refine' Lw.all_mk KX G hmg ?d_part_told ?d_told ?d_law_cell_at ?d_law_some ?d_law_spread ?d_law_row ?d_law ?n_abs ?n_all ?n_any ?n_enumerate ?n_int ?n_isinstance ?n_len ?n_list ?n_max ?n_range ?n_str
    (case d_part_told => refine' Vs.defK_mk ?a ?l ?c ?k; (case a => k_is); (case l => k_is); (case c => k_is); (case k => k_is))
    (case d_told => refine' Vs.defK_mk ?a ?l ?c ?k; (case a => k_is); (case l => k_is); (case c => k_is); (case k => k_is))
    (case d_law_cell_at => refine' Vs.defK_mk ?a ?l ?c ?k; (case a => k_is); (case l => k_is); (case c => k_is); (case k => k_is))
    (case d_law_some => refine' Vs.defK_mk ?a ?l ?c ?k; (case a => k_is); (case l => k_is); (case c => k_is); (case k => k_is))
    (case d_law_spread => refine' Vs.defK_mk ?a ?l ?c ?k; (case a => k_is); (case l => k_is); (case c => k_is); (case k => k_is))
    (case d_law_row => refine' Vs.defK_mk ?a ?l ?c ?k; (case a => k_is); (case l => k_is); (case c => k_is); (case k => k_is))
    (case d_law => refine' Vs.defK_mk ?a ?l ?c ?k; (case a => k_is); (case l => k_is); (case c => k_is); (case k => k_is))
    (case n_abs => (unfold Vs.NoK; k_is))
    (case n_all => (unfold Vs.NoK; k_is))
    (case n_any => (unfold Vs.NoK; k_is))
    (case n_enumerate => (unfold Vs.NoK; k_is))
    (case n_int => (unfold Vs.NoK; k_is))
    (case n_isinstance => (unfold Vs.NoK; k_is))
    (case n_len => (unfold Vs.NoK; k_is))
    (case n_list => (unfold Vs.NoK; k_is))
    (case n_max => (unfold Vs.NoK; k_is))
    (case n_range => (unfold Vs.NoK; k_is))
    (case n_str => (unfold Vs.NoK; k_is))
