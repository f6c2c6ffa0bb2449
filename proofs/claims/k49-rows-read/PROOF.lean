import PyProof.Rows.All
import Wide.All
import OpenK.AllK
import Wide.FinOn
import HandS.ForMost
import HandS.ForExc
import HandS.TupAny
import HandS.WideBits
import HandS.Wide
import HandS.IsInst
import HandS.CallSlots
import HandS.Rev
import HandS.Zip
import HandS.EndBits
import PyProof.Rows.ChunkLeaf
import PyProof.AutoSeq1
import HandS.Text
import HandS.StrMore
import PyProof.StrOps2
import HandS.More
import HandS.SortInts
import HandS.Defaults
import HandS.RevRange
import HandS.ExcIs
import HandS.TryElse
import HandS.Call
import KE.GoesEnum
import PyProof.Rows.StrPadFill
import HandS.TupLe
import HandS.Conv
import HandS.Iter
import HandS.TupMul
import KE.GoesComp
import KE.KDictCopyH
import KE.KDictOf
import HandS.HotCalls
import HandS.SuiteRaise
import PySem.Challenge.RW_liftwave_k49_rows_read
set_option Elab.async false
set_option linter.all false
set_option maxRecDepth 100000
set_option maxHeartbeats 4000000
/-! Vs: values in place of heaps, over the hand layer. -/
namespace Vs
open PySem PySem.Spec PyProof.Rows L2

/-- data -/
inductive D where
  | non | bl (b : Bool) | int (i : Int) | str (x : Str) | lst (xs : List D) | fz (xs : List D) | tup (xs : List D) | dic (t : Bool) (ks vs : List D) | fn (x : Str) | exc (c : Str) (a : Addr) | obj (c : Str) (ks : List Str) (vs : List D)

inductive R (α : Type) where
  | st | ok (a : α) | ex (c : Str)
def R.bind {α β : Type} : R α → (α → R β) → R β
  | .st, _ => .st
  | .ok a, f => f a
  | .ex c, _ => .ex c
@[simp] theorem R.bind_ok {α β : Type} (a : α) (f : α → R β) : (R.ok a).bind f = f a := rfl
@[simp] theorem R.bind_st {α β : Type} (f : α → R β) : (R.st).bind f = .st := rfl
@[simp] theorem R.bind_ex {α β : Type} (c : Str) (f : α → R β) : (R.ex c).bind f = .ex c := rfl

abbrev Env := List (Option D)

mutual
def immD : D → Bool
  | .non | .bl _ | .int _ | .str _ | .fn _ | .exc _ _ => true
  | .lst _ | .dic _ _ _ | .obj _ _ _ => false
  | .fz xs => immDs xs
  | .tup xs => immDs xs
def immDs : List D → Bool
  | [] => true
  | x :: xs => immD x && immDs xs
end

/-- a dict's key as data -/
def keyD : Key → D
  | .inl i => .int i
  | .inr x => .str x

/-- a tuple of the program's own part -/
def KtT (K : PySem.W.Frag) (a : Addr) (xs : List V) : Prop := ∃ (o : Obj) (its : Array Value) (n : Nat), K.lookup a = some o ∧ o.cls = .type "tuple" ∧ o.data = .seq its n ∧ its.size ≤ sizeLine ∧ Vals xs its.toList ∧ (xs.length ≠ 2 ∨ ∃ b, V.ref b ∈ xs)
/-- a tuple that was made, or one of the program's own part -/
def TpT (K : PySem.W.Frag) (H : Hp) (a : Addr) (xs : List V) : Prop := H a = some (.tup xs) ∨ KtT K a xs
theorem TpT.sq {K : PySem.W.Frag} {H : Hp} {a : Addr} {xs : List V} (h : TpT K H a xs) : SqT K H a xs := h.elim SqT.of fun ⟨o, its, n, h1, h2, h3, h4, h5, _⟩ => .inr ⟨o, its, n, h1, h2, h3, h4, h5⟩
/-- x is the module's own name of what stands at a -/
def NameK (K : PySem.W.Frag) (x : Str) (a : Addr) : Prop := PySem.W.nsIn K mainGlobals x = some (some (.ref a))
/-- what never changes -/
def Stt : HO → Prop
  | .tup _ => True
  | .frz _ _ => True
  | _ => False
mutual
/-- v is to be read as d -/
inductive Rd (K : PySem.W.Frag) (H : Hp) : V → D → Prop
  | non : Rd K H .non .non
  | bl (b : Bool) : Rd K H (.bl b) (.bl b)
  | int (i : Int) : Rd K H (.int i) (.int i)
  | str (x : Str) : Rd K H (.str x) (.str x)
  | fn {a : Addr} {x : Str} : NameK K x a → Rd K H (.ref a) (.fn x)
  | exc (c : Str) (a : Addr) : Rd K H (.ref a) (.exc c a)
  | lst {a : Addr} {vs : List V} {ds : List D} : SqL K H a vs → Rds K H vs ds → Rd K H (.ref a) (.lst ds)
  | fz {a : Addr} {o : Obj} {vs : List V} {ds : List D} : H a = some (.frz o (.lst vs)) → Rds K H vs ds → Rd K H (.ref a) (.fz ds)
  | tup {a : Addr} {vs : List V} {ds : List D} : TpT K H a vs → Rds K H vs ds → Rd K H (.ref a) (.tup ds)
  | dk {a : Addr} {kvs : List (Key × V)} {ks : List D} {ds : List D} : H a = some (.dK kvs) → ks = kvs.map (fun p => keyD p.1) → Rds K H (kvs.map (·.2)) ds → Rd K H (.ref a) (.dic false ks ds)
  | dt {a : Addr} {kvs : List (List Key × V)} {ks : List D} {ds : List D} : H a = some (.dT kvs) → ks = kvs.map (fun p => D.tup (p.1.map keyD)) → Rds K H (kvs.map (·.2)) ds → Rd K H (.ref a) (.dic true ks ds)
  | obj {a C dx : Addr} {fs : List (Str × V)} {c : Str} {ks : List Str} {ds : List D} : H a = some (.ins C dx fs) → H dx = some (.own a) → NameK K c C → ks = fs.map (·.1) → Rds K H (fs.map (·.2)) ds → Rd K H (.ref a) (.obj c ks ds)
inductive Rds (K : PySem.W.Frag) (H : Hp) : List V → List D → Prop
  | nil : Rds K H [] []
  | cons {v : V} {vs : List V} {d : D} {ds : List D} : Rd K H v d → Rds K H vs ds → Rds K H (v :: vs) (d :: ds)
end

mutual
/-- v is d, and the lists of d stand at A, each once -/
inductive Fu (K : PySem.W.Frag) (H : Hp) : V → D → List Addr → Prop
  | non : Fu K H .non .non []
  | bl (b : Bool) : Fu K H (.bl b) (.bl b) []
  | int (i : Int) : Fu K H (.int i) (.int i) []
  | str (x : Str) : Fu K H (.str x) (.str x) []
  | fn {a : Addr} {x : Str} : NameK K x a → Fu K H (.ref a) (.fn x) []
  | exc (c : Str) (a : Addr) : Fu K H (.ref a) (.exc c a) []
  | lst {a : Addr} {vs : List V} {ds : List D} {A : List Addr} : H a = some (.lst vs) → Fus K H vs ds A → a ∉ A → Fu K H (.ref a) (.lst ds) (a :: A)
  | fz {a : Addr} {o : Obj} {vs : List V} {ds : List D} : H a = some (.frz o (.lst vs)) → Fus K H vs ds [] → Fu K H (.ref a) (.fz ds) []
  | tup {a : Addr} {vs : List V} {ds : List D} {A : List Addr} : TpT K H a vs → Fus K H vs ds A → Fu K H (.ref a) (.tup ds) A
  | dk {a : Addr} {kvs : List (Key × V)} {ks : List D} {ds : List D} {A : List Addr} : H a = some (.dK kvs) → ks = kvs.map (fun p => keyD p.1) → Fus K H (kvs.map (·.2)) ds A → a ∉ A → Fu K H (.ref a) (.dic false ks ds) (a :: A)
  | dt {a : Addr} {kvs : List (List Key × V)} {ks : List D} {ds : List D} {A : List Addr} : H a = some (.dT kvs) → ks = kvs.map (fun p => D.tup (p.1.map keyD)) → Fus K H (kvs.map (·.2)) ds A → a ∉ A → Fu K H (.ref a) (.dic true ks ds) (a :: A)
  | obj {a C dx : Addr} {fs : List (Str × V)} {c : Str} {ks : List Str} {ds : List D} {A : List Addr} : H a = some (.ins C dx fs) → H dx = some (.own a) → NameK K c C → ks = fs.map (·.1) → Fus K H (fs.map (·.2)) ds A → a ∉ A → dx ∉ A → a ≠ dx → Fu K H (.ref a) (.obj c ks ds) (a :: dx :: A)
inductive Fus (K : PySem.W.Frag) (H : Hp) : List V → List D → List Addr → Prop
  | nil : Fus K H [] [] []
  | cons {v : V} {vs : List V} {d : D} {ds : List D} {A B : List Addr} : Fu K H v d A → Fus K H vs ds B → (∀ x ∈ A, x ∉ B) → Fus K H (v :: vs) (d :: ds) (A ++ B)
end

section
variable {K : PySem.W.Frag} {H H' S : Hp}

theorem seqT (e : Same H H') {a : Addr} {xs : List V} (h : TpT K H a xs) : TpT K H' a xs := h.imp (e _ _) id

mutual
theorem Rd.mono (e : Same H H') : ∀ {v : V} {d : D}, Rd K H v d → Rd K H' v d
  | _, _, .non => .non
  | _, _, .bl b => .bl b
  | _, _, .int i => .int i
  | _, _, .str x => .str x
  | _, _, .fn n => .fn n
  | _, _, .exc c a => .exc c a
  | _, _, .lst h r => .lst (e.seq h) (Rds.mono e r)
  | _, _, .fz h r => .fz (e _ _ h) (Rds.mono e r)
  | _, _, .tup h r => .tup (seqT e h) (Rds.mono e r)
  | _, _, .dk h q r => .dk (e _ _ h) q (Rds.mono e r)
  | _, _, .dt h q r => .dt (e _ _ h) q (Rds.mono e r)
  | _, _, .obj h h2 n q r => .obj (e _ _ h) (e _ _ h2) n q (Rds.mono e r)
theorem Rds.mono (e : Same H H') : ∀ {vs : List V} {ds : List D}, Rds K H vs ds → Rds K H' vs ds
  | _, _, .nil => .nil
  | _, _, .cons h r => .cons (Rd.mono e h) (Rds.mono e r)
end

mutual
theorem Fu.rd : ∀ {v : V} {d : D} {A : List Addr}, Fu K H v d A → Rd K H v d
  | _, _, _, .non => .non
  | _, _, _, .bl b => .bl b
  | _, _, _, .int i => .int i
  | _, _, _, .str x => .str x
  | _, _, _, .fn n => .fn n
  | _, _, _, .exc c a => .exc c a
  | _, _, _, .lst h r _ => .lst (SqL.of h) (Fus.rd r)
  | _, _, _, .fz h r => .fz h (Fus.rd r)
  | _, _, _, .tup h r => .tup h (Fus.rd r)
  | _, _, _, .dk h q r _ => .dk h q (Fus.rd r)
  | _, _, _, .dt h q r _ => .dt h q (Fus.rd r)
  | _, _, _, .obj h h2 n q r _ _ _ => .obj h h2 n q (Fus.rd r)
theorem Fus.rd : ∀ {vs : List V} {ds : List D} {A : List Addr}, Fus K H vs ds A → Rds K H vs ds
  | _, _, _, .nil => .nil
  | _, _, _, .cons h r _ => .cons (Fu.rd h) (Fus.rd r)
end

mutual
/-- what is owned stays where its lists stay, and the tuples -/
theorem Fu.at : ∀ {v : V} {d : D} {A : List Addr}, Fu K H v d A → (∀ a ∈ A, H' a = H a) → (∀ b o, Stt o → H b = some o → H' b = some o) → Fu K H' v d A
  | _, _, _, .non, _, _ => .non
  | _, _, _, .bl b, _, _ => .bl b
  | _, _, _, .int i, _, _ => .int i
  | _, _, _, .str x, _, _ => .str x
  | _, _, _, .fn n, _, _ => .fn n
  | _, _, _, .exc c a, _, _ => .exc c a
  | _, _, _, .lst h r n, k, t => .lst ((k _ List.mem_cons_self).trans h) (Fus.at r (fun a ha => k a (List.mem_cons_of_mem _ ha)) t) n
  | _, _, _, .fz h r, k, t => .fz (t _ _ trivial h) (Fus.at r (fun a ha => nomatch ha) t)
  | _, _, _, .tup h r, k, t => .tup (h.imp (t _ _ trivial) id) (Fus.at r k t)
  | _, _, _, .dk h q r n, k, t => .dk ((k _ List.mem_cons_self).trans h) q (Fus.at r (fun a ha => k a (List.mem_cons_of_mem _ ha)) t) n
  | _, _, _, .dt h q r n, k, t => .dt ((k _ List.mem_cons_self).trans h) q (Fus.at r (fun a ha => k a (List.mem_cons_of_mem _ ha)) t) n
  | _, _, _, .obj h h2 nk q r n n2 n3, k, t => .obj ((k _ List.mem_cons_self).trans h) ((k _ (List.mem_cons_of_mem _ List.mem_cons_self)).trans h2) nk q (Fus.at r (fun a ha => k a (List.mem_cons_of_mem _ (List.mem_cons_of_mem _ ha))) t) n n2 n3
theorem Fus.at : ∀ {vs : List V} {ds : List D} {A : List Addr}, Fus K H vs ds A → (∀ a ∈ A, H' a = H a) → (∀ b o, Stt o → H b = some o → H' b = some o) → Fus K H' vs ds A
  | _, _, _, .nil, _, _ => .nil
  | _, _, _, .cons h r n, k, t => .cons (Fu.at h (fun a ha => k a (List.mem_append_left _ ha)) t) (Fus.at r (fun a ha => k a (List.mem_append_right _ ha)) t) n
end

mutual
/-- the owned lists are tracked -/
theorem Fu.there : ∀ {v : V} {d : D} {A : List Addr}, Fu K H v d A → ∀ a ∈ A, ∃ o, H a = some o
  | _, _, _, .non, _, h => nomatch h
  | _, _, _, .bl b, _, h => nomatch h
  | _, _, _, .int i, _, h => nomatch h
  | _, _, _, .str x, _, h => nomatch h
  | _, _, _, .fn n, _, h => nomatch h
  | _, _, _, .exc c a, _, h => nomatch h
  | _, _, _, .lst h r n, a, m => by
    rcases List.mem_cons.mp m with e | m
    · exact ⟨_, e ▸ h⟩
    · exact Fus.there r a m
  | _, _, _, .fz h r, a, m => nomatch m
  | _, _, _, .tup h r, a, m => Fus.there r a m
  | _, _, _, .dk h q r n, a, m => by
    rcases List.mem_cons.mp m with e | m
    · exact ⟨_, e ▸ h⟩
    · exact Fus.there r a m
  | _, _, _, .dt h q r n, a, m => by
    rcases List.mem_cons.mp m with e | m
    · exact ⟨_, e ▸ h⟩
    · exact Fus.there r a m
  | _, _, _, .obj h h2 nk q r n n2 n3, a, m => by
    rcases List.mem_cons.mp m with e | m
    · exact ⟨_, e ▸ h⟩
    · rcases List.mem_cons.mp m with e | m
      · exact ⟨_, e ▸ h2⟩
      · exact Fus.there r a m
theorem Fus.there : ∀ {vs : List V} {ds : List D} {A : List Addr}, Fus K H vs ds A → ∀ a ∈ A, ∃ o, H a = some o
  | _, _, _, .nil, _, h => nomatch h
  | _, _, _, .cons h r _, a, m => by
    rcases List.mem_append.mp m with m | m
    · exact Fu.there h a m
    · exact Fus.there r a m
end
theorem Fu.same {v : V} {d : D} {A : List Addr} (f : Fu K H v d A) (e : Same H H') : Fu K H' v d A :=
  f.at (fun a ha => by obtain ⟨o, h⟩ := f.there a ha; rw [h]; exact e a o h) fun b o _ h => e b o h
theorem Fus.same {v : List V} {d : List D} {A : List Addr} (f : Fus K H v d A) (e : Same H H') : Fus K H' v d A :=
  f.at (fun a ha => by obtain ⟨o, h⟩ := f.there a ha; rw [h]; exact e a o h) fun b o _ h => e b o h

mutual
theorem Rd.fu : ∀ {v : V} {d : D}, Rd K H v d → immD d = true → Fu K H v d []
  | _, _, .non, _ => .non
  | _, _, .bl b, _ => .bl b
  | _, _, .int i, _ => .int i
  | _, _, .str x, _ => .str x
  | _, _, .fn n, _ => .fn n
  | _, _, .exc c a, _ => .exc c a
  | _, _, .lst _ _, m => absurd m (by rw [immD]; exact Bool.false_ne_true)
  | _, _, .fz h r, m => .fz h (Rds.fu r (by rw [immD] at m; exact m))
  | _, _, .tup h r, m => .tup h (Rds.fu r (by rw [immD] at m; exact m))
  | _, _, .dk _ _ _, m => absurd m (by rw [immD]; exact Bool.false_ne_true)
  | _, _, .dt _ _ _, m => absurd m (by rw [immD]; exact Bool.false_ne_true)
  | _, _, .obj _ _ _ _ _, m => absurd m (by rw [immD]; exact Bool.false_ne_true)
theorem Rds.fu : ∀ {vs : List V} {ds : List D}, Rds K H vs ds → immDs ds = true → Fus K H vs ds []
  | _, _, .nil, _ => .nil
  | _, _, .cons h r, m => Fus.cons (A := []) (B := []) (Rd.fu h (by rw [immDs, Bool.and_eq_true] at m; exact m.1)) (Rds.fu r (by rw [immDs, Bool.and_eq_true] at m; exact m.2)) (fun _ h => nomatch h)
end
theorem Fus.app {vs ws : List V} {ds es : List D} {A B : List Addr} (f : Fus K H vs ds A) (g : Fus K H ws es B) (n : ∀ x ∈ A, x ∉ B) : Fus K H (vs ++ ws) (ds ++ es) (A ++ B) := by
  induction vs generalizing ds A with
  | nil => cases f; exact g
  | cons v vs ih =>
    cases f with
    | cons h r m =>
      rw [List.append_assoc]
      refine .cons h (ih r fun x hx => n x (List.mem_append_right _ hx)) fun x hx q => ?_
      rcases List.mem_append.mp q with q | q
      · exact m x hx q
      · exact n x (List.mem_append_left _ hx) q
theorem Rds.app {vs ws : List V} {ds es : List D} (f : Rds K H vs ds) (g : Rds K H ws es) : Rds K H (vs ++ ws) (ds ++ es) := by
  induction vs generalizing ds with
  | nil => cases f; exact g
  | cons v vs ih =>
    cases f with
    | cons h r => exact .cons h (ih r)
theorem Rds.length {vs : List V} {ds : List D} (f : Rds K H vs ds) : vs.length = ds.length := by
  induction vs generalizing ds with
  | nil => cases f; rfl
  | cons v vs ih =>
    cases f with
    | cons h r => simp [ih r]
theorem Rds.get {vs : List V} {ds : List D} (f : Rds K H vs ds) : ∀ {i : Nat} {d : D}, ds[i]? = some d → ∃ v, vs[i]? = some v ∧ Rd K H v d := by
  induction vs generalizing ds with
  | nil => cases f; intro i d h; simp at h
  | cons v vs ih =>
    cases f with
    | cons h r =>
      intro i d q
      cases i with
      | zero => simp at q; subst q; exact ⟨v, rfl, h⟩
      | succ i => simpa using ih r (by simpa using q)
theorem Rds.getV {vs : List V} {ds : List D} (f : Rds K H vs ds) : ∀ {i : Nat} {v : V}, vs[i]? = some v → ∃ d, ds[i]? = some d ∧ Rd K H v d := by
  induction vs generalizing ds with
  | nil => intro i v h; simp at h
  | cons v vs ih =>
    cases f with
    | cons h r =>
      intro i d q
      cases i with
      | zero => simp at q; subst q; exact ⟨_, rfl, h⟩
      | succ i => simpa using ih r (by simpa using q)
theorem Fus.length {vs : List V} {ds : List D} {A : List Addr} (f : Fus K H vs ds A) : vs.length = ds.length := f.rd.length
/-- an item of what is owned -/
theorem Fus.get {vs : List V} {ds : List D} {A : List Addr} (f : Fus K H vs ds A) : ∀ {i : Nat} {d : D}, ds[i]? = some d → ∃ v A', vs[i]? = some v ∧ Fu K H v d A' ∧ ∀ a ∈ A', a ∈ A := by
  induction vs generalizing ds A with
  | nil => cases f; intro i d h; simp at h
  | cons v vs ih =>
    cases f with
    | cons h r m =>
      intro i d q
      cases i with
      | zero => simp at q; subst q; exact ⟨v, _, rfl, h, fun a ha => List.mem_append_left _ ha⟩
      | succ i =>
        obtain ⟨w, A', h1, h2, h3⟩ := ih r (by simpa using q : _ = some d)
        exact ⟨w, A', by simpa using h1, h2, fun a ha => List.mem_append_right _ (h3 a ha)⟩
/-- an item changed for another -/
theorem Fus.set {vs : List V} {ds : List D} {A B : List Addr} {w : V} {e : D} (g : Fu K H w e B) : ∀ {vs : List V} {ds : List D} {A : List Addr}, Fus K H vs ds A → (∀ x ∈ B, x ∉ A) → ∀ i, ∃ A', Fus K H (vs.set i w) (ds.set i e) A' ∧ ∀ a ∈ A', a ∈ A ∨ a ∈ B := by
  intro vs
  induction vs with
  | nil => intro ds A f n i; cases f; exact ⟨[], .nil, fun a h => nomatch h⟩
  | cons v vs ih =>
    intro ds A f n i
    cases f with
    | cons h r m =>
      rename_i A1 A2
      cases i with
      | zero =>
        refine ⟨_, .cons g r fun x hx q => n x hx (List.mem_append_right _ q), fun a ha => ?_⟩
        rcases List.mem_append.mp ha with q | q
        · exact .inr q
        · exact .inl (List.mem_append_right _ q)
      | succ i =>
        obtain ⟨A', h1, h2⟩ := ih r (fun x hx q => n x hx (List.mem_append_right _ q)) i
        refine ⟨_, .cons h h1 fun x hx q => ?_, fun a ha => ?_⟩
        · rcases h2 x q with q | q
          · exact m x hx q
          · exact n x q (List.mem_append_left _ hx)
        · rcases List.mem_append.mp ha with q | q
          · exact .inl (List.mem_append_left _ q)
          · rcases h2 a q with q | q
            · exact .inl (List.mem_append_right _ q)
            · exact .inr q
end

/-! ### the outcome of an expression -/
/-- the slots' values read as data -/
structure REnv (K : PySem.W.Frag) (ρ : Env) (σ : L2.St) (H : Hp) : Prop where
  len : ρ.length = σ.length
  val : ∀ (i : Nat) (d : D), ρ[i]? = some (some d) → ∃ v, σ[i]? = some (some v) ∧ Rd K H v d
theorem REnv.mono {K : PySem.W.Frag} {ρ : Env} {σ : L2.St} {H H' : Hp} (h : REnv K ρ σ H) (e : Same H H') : REnv K ρ σ H' := ⟨h.len, fun i d q =>
  let ⟨v, h1, h2⟩ := h.val i d q
  ⟨v, h1, h2.mono e⟩⟩

section
variable {α β : Type}
def Out (mg : Str → Option Value) (W : WX) (σ : L2.St) (H : Hp) (r : R α) (P : α → Prop) : Prop := match r with
  | .ok a => P a
  | .ex c => ∃ C, mg c = some (.ref C) ∧ ∀ H', Same H H' → W (.ref C) none σ H'
  | .st => False
variable {mg : Str → Option Value} {W : WX} {σ : L2.St} {H H' : Hp}
theorem Out.bind {r : R α} {g : α → R β} {P : β → Prop} (h : Out mg W σ H (r.bind g) P) : Out mg W σ H r fun a => Out mg W σ H (g a) P := by
  cases r with
  | ok a => exact h
  | ex c => exact h
  | st => exact h
theorem Out.mono {r : R α} {P P' : α → Prop} (h : Out mg W σ H r P) (q : ∀ a, r = .ok a → P a → P' a) : Out mg W σ H r P' := by
  cases r with
  | ok a => exact q a rfl h
  | ex c => exact h
  | st => exact h
theorem Out.up {r : R α} {P : α → Prop} (h : Out mg W σ H r P) (e : Same H H') : Out mg W σ H' r P := by
  cases r with
  | ok a => exact h
  | ex c => obtain ⟨C, h1, h2⟩ := h; exact ⟨C, h1, fun H2 s => h2 H2 (e.trans s)⟩
  | st => exact h
end

/-- a value that is read -/
def tF (K : PySem.W.Frag) (mg : Str → Option Value) (W : WX) (f : Env → R D) : TE := fun σ H Q => ∃ ρ, REnv K ρ σ H ∧ Out mg W σ H (f ρ) fun d => ∀ v H', Same H H' → Rd K H' v d → Q v H'
/-- a value that is new and the asker's own -/
def tG (K : PySem.W.Frag) (mg : Str → Option Value) (W : WX) (f : Env → R D) : TE := fun σ H Q => ∃ ρ, REnv K ρ σ H ∧ Out mg W σ H (f ρ) fun d => ∀ v H' A, Same H H' → Fu K H' v d A → (∀ a ∈ A, H a = none) → Q v H'
/-- several values -/
def tFs (K : PySem.W.Frag) (mg : Str → Option Value) (W : WX) (f : Env → R (List D)) : TA := fun σ H Q => ∃ ρ, REnv K ρ σ H ∧ Out mg W σ H (f ρ) fun ds => ∀ vs H', Same H H' → Rds K H' vs ds → Q vs H'
def tGs (K : PySem.W.Frag) (mg : Str → Option Value) (W : WX) (f : Env → R (List D)) : TA := fun σ H Q => ∃ ρ, REnv K ρ σ H ∧ Out mg W σ H (f ρ) fun ds => ∀ vs H' A, Same H H' → Fus K H' vs ds A → (∀ a ∈ A, H a = none) → Q vs H'
/-- a test -/
def tT (K : PySem.W.Frag) (mg : Str → Option Value) (W : WX) (f : Env → R Bool) : TT := fun σ H Q => ∃ ρ, REnv K ρ σ H ∧ Out mg W σ H (f ρ) fun b => ∀ H', Same H H' → Q b H'

structure VE (X : Cx) (W : WX) (e : Expr) (f : Env → R D) : Prop where
  pe : PE X e (tF X.K X.mg W f)
structure VG (X : Cx) (W : WX) (e : Expr) (f : Env → R D) : Prop where
  pe : PE X e (tG X.K X.mg W f)
structure VT (X : Cx) (W : WX) (e : Expr) (f : Env → R Bool) : Prop where
  pt : PT X e (tT X.K X.mg W f)
structure VW (X : Cx) (W : WX) (e : Expr) (f : Env → R Bool) : Prop where
  pw : PW X e (tT X.K X.mg W f)
structure VA (X : Cx) (W : WX) (es : List Expr) (f : Env → R (List D)) : Prop where
  pa : PA X es (tFs X.K X.mg W f)
structure VB (X : Cx) (W : WX) (es : List Expr) (f : Env → R (List D)) : Prop where
  pa : PA X es (tGs X.K X.mg W f)

/-- weaker readings -/
theorem peW {X : Cx} {e : Expr} {t u : TE} (h : PE X e t) (q : ∀ σ H Q, u σ H Q → t σ H Q) : PE X e u := ⟨fun pins s σ H Q I x => h.run pins s σ H Q I (q σ H Q x)⟩
theorem ptW {X : Cx} {e : Expr} {t u : TT} (h : PT X e t) (q : ∀ σ H Q, u σ H Q → t σ H Q) : PT X e u := ⟨fun pins s σ H Q I x => h.run pins s σ H Q I (q σ H Q x)⟩
theorem pwW {X : Cx} {e : Expr} {t u : TT} (h : PW X e t) (q : ∀ σ H Q, u σ H Q → t σ H Q) : PW X e u := ⟨fun wh pins s σ H Q I x => h.run wh pins s σ H Q I (q σ H Q x)⟩
theorem paW {X : Cx} {es : List Expr} {t u : TA} (h : PA X es t) (q : ∀ σ H Q, u σ H Q → t σ H Q) : PA X es u := ⟨fun pos pins s σ H Q I x => h.run pos pins s σ H Q I (q σ H Q x)⟩
theorem psW {X : Cx} {st : Stmt} {t u : TS} (h : PS X st t) (q : ∀ D σ H, u D σ H → t D σ H) : PS X st u := ⟨fun pins s σ H D I x => h.run pins s σ H D I (q D σ H x)⟩
theorem pssW {X : Cx} {st : List Stmt} {t u : TS} (h : PSs X st t) (q : ∀ D σ H, u D σ H → t D σ H) : PSs X st u := ⟨fun pins s σ H D I x => h.run pins s σ H D I (q D σ H x)⟩

section
variable {X : Cx} {W : WX} {e a b c : Expr} {es : List Expr} {f g h : Env → R D} {pos : Pos}
theorem VG.ve (v : VG X W e f) : VE X W e f := ⟨peW v.pe fun σ H Q ⟨ρ, r, o⟩ => ⟨ρ, r, o.mono fun d _ q v H' A s fu _ => q v H' s fu.rd⟩⟩
/-- what is no list is anyone's -/
def imm (f : Env → R D) (ρ : Env) : R D := (f ρ).bind fun d => if immD d = true then .ok d else .st
theorem VE.vg (v : VE X W e f) : VG X W e (imm f) := ⟨peW v.pe fun σ H Q ⟨ρ, r, o⟩ => ⟨ρ, r, (Out.bind o).mono fun d _ q v H' s rd => by
  by_cases m : immD d = true
  · rw [if_pos m] at q
    exact q v H' [] s (rd.fu m) (fun _ h => nomatch h)
  · rw [if_neg m] at q
    exact q.elim⟩⟩

/-! ### names, constants -/
def varE (i : Nat) (ρ : Env) : R D := match ρ[i]? with
  | some (some d) => .ok d
  | _ => .st
theorem ve_var (i : Nat) {x : Str} (p : PE X (.Name x pos) (tVar i)) : VE X W (.Name x pos) (varE i) := ⟨peW p fun σ H Q ⟨ρ, r, o⟩ => by
  unfold varE at o
  split at o
  · rename_i d e
    obtain ⟨v, h1, h2⟩ := r.val i d e
    exact ⟨v, h1, o v H (Same.refl H) h2⟩
  · exact o.elim⟩
def cE (d : D) (_ : Env) : R D := .ok d
theorem vg_c {v : V} {d : D} (p : PE X e (tC v)) (fu : ∀ H, Fu X.K H v d []) : VG X W e (cE d) := ⟨peW p fun σ H Q ⟨ρ, r, o⟩ => o v H [] (Same.refl H) (fu H) (fun _ h => nomatch h)⟩
theorem vg_int {i : Int} {j} : VG X W (.Constant (.int i) j pos) (cE (.int i)) := vg_c pe_int fun _ => .int i
theorem vg_str {i : Str} {j} : VG X W (.Constant (.str i) j pos) (cE (.str i)) := vg_c pe_str fun _ => .str i
theorem vg_bl {i : Bool} {j} : VG X W (.Constant (.bool i) j pos) (cE (.bl i)) := vg_c pe_bl fun _ => .bl i
theorem vg_non {j} : VG X W (.Constant .none j pos) (cE .non) := vg_c pe_non fun _ => .non

/-! ### argument lists -/
def nilA (_ : Env) : R (List D) := .ok []
def consA (f : Env → R D) (fs : Env → R (List D)) (ρ : Env) : R (List D) := (f ρ).bind fun d => (fs ρ).bind fun ds => .ok (d :: ds)
theorem va_nil : VA X W [] nilA := ⟨paW pa_nil fun σ H Q ⟨ρ, r, o⟩ => o [] H (Same.refl H) .nil⟩
theorem vb_nil : VB X W [] nilA := ⟨paW pa_nil fun σ H Q ⟨ρ, r, o⟩ => o [] H [] (Same.refl H) .nil (fun _ h => nomatch h)⟩
theorem va_cons {fs : Env → R (List D)} (ha : VE X W e f) (hr : VA X W es fs) (hs : starEach (e :: es) X.env = (false, eval e X.env) :: starEach es X.env := by rfl) : VA X W (e :: es) (consA f fs) :=
  ⟨paW (pa_cons ha.pe hr.pa hs) fun σ H Q ⟨ρ, r, o⟩ => ⟨ρ, r, (Out.bind o).mono fun d _ q v H1 s1 r1 => ⟨ρ, r.mono s1, ((Out.bind q).up s1).mono fun ds _ q vs H2 s2 r2 => q (v :: vs) H2 (s1.trans s2) (.cons (r1.mono s2) r2)⟩⟩⟩
theorem vb_cons {fs : Env → R (List D)} (ha : VG X W e f) (hr : VB X W es fs) (hs : starEach (e :: es) X.env = (false, eval e X.env) :: starEach es X.env := by rfl) : VB X W (e :: es) (consA f fs) :=
  ⟨paW (pa_cons ha.pe hr.pa hs) fun σ H Q ⟨ρ, r, o⟩ => ⟨ρ, r, (Out.bind o).mono fun d _ q v H1 A s1 f1 n1 => ⟨ρ, r.mono s1, ((Out.bind q).up s1).mono fun ds _ q vs H2 B s2 f2 n2 => q (v :: vs) H2 (A ++ B) (s1.trans s2)
    (.cons (f1.same s2) f2 fun x hx hb => by obtain ⟨o, ho⟩ := f1.there x hx; rw [n2 x hb] at ho; cases ho)
    fun x hx => (List.mem_append.mp hx).elim (fun z => n1 x z) fun z => s1.free (n2 x z)⟩⟩⟩

/-! ### operators by values -/
/-- an operator's rule over data: pure, the result new -/
def OpD (X : Cx) (r : R2) (g : D → D → R D) : Prop := ∀ (x y : V) (d e : D) (H : Hp) (Q : VK) (z : D), Rd X.K H x d → Rd X.K H y e → g d e = .ok z → (∀ v H' A, Same H H' → Fu X.K H' v z A → (∀ a ∈ A, H a = none) → Q v H') → r x y H Q
def op2 (g : D → D → R D) (f h : Env → R D) (ρ : Env) : R D := (f ρ).bind fun d => (h ρ).bind fun e => g d e
def NoEx2 (g : D → D → R D) : Prop := ∀ d e c, g d e ≠ .ex c
theorem tOp_of {r : R2} {g : D → D → R D} (k : OpD X r g) (n : NoEx2 g) {σ : L2.St} {H : Hp} {Q : VK} (hh : tG X.K X.mg W (op2 g f h) σ H Q) : tOp r (tF X.K X.mg W f) (tF X.K X.mg W h) σ H Q := by
  obtain ⟨ρ, re, o⟩ := hh
  refine ⟨ρ, re, (Out.bind o).mono fun d _ q v H1 s1 r1 => ?_⟩
  refine ⟨ρ, re.mono s1, ((Out.bind q).up s1).mono fun e _ q w H2 s2 r2 => ?_⟩
  cases hz : g d e with
  | ok z =>
    rw [hz] at q
    exact k v w d e H2 Q z (r1.mono s2) r2 hz fun u H3 A s3 f3 n3 => q u H3 A ((s1.trans s2).trans s3) f3 fun a ha => (s1.trans s2).free (n3 a ha)
  | ex c => exact absurd hz (n d e c)
  | st => rw [hz] at q; exact q.elim
theorem vg_op {op : Operator} {r : R2} {g : D → D → R D} (ho : OpR X (binaryOp op) r) (k : OpD X r g) (n : NoEx2 g) (ha : VE X W a f) (hb : VE X W b h) : VG X W (.BinOp a op b pos) (op2 g f h) :=
  ⟨peW (pe_op ho ha.pe hb.pe) fun σ H Q q => tOp_of k n q⟩
theorem vg_cmp {op : CmpOp} {r : R2} {g : D → D → R D} (ho : OpR X (compareOp op) r) (k : OpD X r g) (n : NoEx2 g) (ha : VE X W a f) (hb : VE X W b h) (hm : behindInMarks op b = false) : VG X W (.Compare a [op] [b] pos) (op2 g f h) :=
  ⟨peW (pe_cmpR ho ha.pe hb.pe hm) fun σ H Q q => tOp_of k n q⟩
end
end Vs

namespace Vs
open PySem PySem.Spec PyProof.Rows L2

/-! ### operators -/
section
variable {X : Cx}
def rCatR (K : PySem.W.Frag) : R2 := fun x y H Q => ∃ l b xs zs, x = .ref l ∧ y = .ref b ∧ SqL K H l xs ∧ SqL K H b zs ∧ xs.length + zs.length ≤ sizeLine ∧ ∀ p, H p = none → Q (.ref p) (upd H p (.lst (xs ++ zs)))
theorem op_catR : OpR X (binaryOp .Add) (rCatR X.K) := by
  intro pins s σ H x y v u Q I rx ry h
  obtain ⟨l, b, xs, zs, rfl, rfl, hH, hB, hz, q⟩ := h
  cases rx
  cases ry
  obtain ⟨its, r, ⟨o, n, ho, hc, hdc, hd⟩, z⟩ := I.list hH
  obtain ⟨its2, r2, ⟨o2, n2, ho2, hc2, hdc2, hd2⟩, z2⟩ := I.list hB
  have l1 := r.length
  have l2 := r2.length
  obtain ⟨cls, dd, data, sl⟩ := o
  obtain ⟨cls2, dd2, data2, sl2⟩ := o2
  simp only at hc hd hc2 hd2 hdc hdc2
  subst hc hd hc2 hd2 hdc hdc2
  have ea : its.toArray ++ its2.toArray = (its ++ its2).toArray := by simp
  refine concat_meets ⟨_, ho, rfl⟩ ⟨_, ho2, rfl⟩ noFill_list_add seq_list_add F.slot_list_add F.entry_list_add (F.args_list_add_2 _ _) (list_addW l b its.toArray its2.toArray n n2 none none sl sl2 (by rw [List.size_toArray, List.size_toArray]; omega)) ⟨ho, ho2, ?_⟩
  rw [ea]
  exact ⟨.ref _, _, I.lnew (t' := s.toks) (r.append r2) (by rw [List.length_append]; omega), rfl, q _ I.fresh⟩
end

theorem new_same {H : Hp} {p : Addr} {o : HO} (h : H p = none) : Same H (upd H p o) := fun b x e => by
  rw [upd_ne (ne_of_none e h)]
  exact e
section
variable {K : PySem.W.Frag} {H : Hp}
theorem fu_new_lst {p : Addr} {vs : List V} {ds : List D} (hp : H p = none) (f : Rds K H vs ds) (m : immDs ds = true) : Fu K (upd H p (.lst vs)) (.ref p) (.lst ds) [p] :=
  .lst upd_same ((f.fu m).same (new_same hp)) (fun h => nomatch h)
theorem fu_new_tup {p : Addr} {vs : List V} {ds : List D} (hp : H p = none) (f : Rds K H vs ds) (m : immDs ds = true) : Fu K (upd H p (.tup vs)) (.ref p) (.tup ds) [] :=
  .tup (.inl upd_same) ((f.fu m).same (new_same hp))
theorem immDs_app : ∀ {xs ys : List D}, immDs xs = true → immDs ys = true → immDs (xs ++ ys) = true
  | [], _, _, h => h
  | x :: xs, ys, h, h' => by
    rw [immDs, Bool.and_eq_true] at h
    show (immD x && immDs (xs ++ ys)) = true
    rw [h.1, immDs_app h.2 h']
    rfl
theorem Rds.flat {vs : List V} {ds : List D} (f : Rds K H vs ds) : ∀ n, Rds K H (List.replicate n vs).flatten (List.replicate n ds).flatten
  | 0 => .nil
  | n + 1 => by
    rw [List.replicate_succ, List.replicate_succ, List.flatten_cons, List.flatten_cons]
    exact f.app (f.flat n)
theorem immDs_flat {ds : List D} (m : immDs ds = true) : ∀ n, immDs (List.replicate n ds).flatten = true
  | 0 => rfl
  | n + 1 => by
    rw [List.replicate_succ, List.flatten_cons]
    exact immDs_app m (immDs_flat m n)
end

def addD : D → D → R D
  | .int i, .int j => .ok (.int (i + j))
  | .str x, .str y => if x.length + y.length ≤ sizeLine then .ok (.str (x ++ y)) else .st
  | .lst xs, .lst ys => if xs.length + ys.length ≤ sizeLine ∧ immDs xs = true ∧ immDs ys = true then .ok (.lst (xs ++ ys)) else .st
  | .tup xs, .tup ys => if xs.length + ys.length ≤ sizeLine ∧ immDs xs = true ∧ immDs ys = true then .ok (.tup (xs ++ ys)) else .st
  | _, _ => .st
def subD : D → D → R D
  | .int i, .int j => .ok (.int (i - j))
  | _, _ => .st
def mulOk (i j : Int) : Prop := i.natAbs.log2 + j.natAbs.log2 < 134217000
instance (i j : Int) : Decidable (mulOk i j) := inferInstanceAs (Decidable (_ < _))
theorem mulOk.ok {i j : Int} (h : mulOk i j) : IntMulOk i j := by
  have b : ∀ x : Int, Builtin.Int.intBits x ≤ x.natAbs.log2 + 1 := fun x => by
    unfold Builtin.Int.intBits
    split <;> omega
  have h1 := b i
  have h2 := b j
  have h3 : i.natAbs.log2 + j.natAbs.log2 < 134217000 := h
  have e : bitsLine = 134217728 := by decide
  unfold IntMulOk
  intro z
  rw [Bool.and_eq_true] at z
  have z2 := z.2
  unfold Builtin.Int.intTooBig at z2
  have z3 := of_decide_eq_true z2
  rw [e] at z3
  omega
def mulD : D → D → R D
  | .int i, .int j => if mulOk i j then .ok (.int (i * j)) else .st
  | _, _ => .st
/-- a new list, so many times -/
def repD : D → D → R D
  | .lst xs, .int k => if 0 ≤ k ∧ xs.length * k.toNat ≤ sizeLine ∧ k < 2 ^ 63 ∧ immDs xs = true then .ok (.lst (List.replicate k.toNat xs).flatten) else .st
  | _, _ => .st
def fdivD : D → D → R D
  | .int i, .int j => if 0 < j ∧ j.natAbs.log2 < 9000 then .ok (.int (i / j)) else .st
  | _, _ => .st
def modD : D → D → R D
  | .int i, .int j => if 0 < j then .ok (.int (i % j)) else .st
  | _, _ => .st
def powD : D → D → R D
  | .int i, .int j => if 0 ≤ j ∧ (Builtin.Int.intBits i : Int) * j ≤ 2 ^ 27 then .ok (.int (i ^ j.toNat)) else .st
  | _, _ => .st
def shlD : D → D → R D
  | .int i, .int j => if 0 ≤ j ∧ (Builtin.Int.intBits i : Int) + j ≤ 2 ^ 27 then .ok (.int (i * 2 ^ j.toNat)) else .st
  | _, _ => .st
def shrD : D → D → R D
  | .int i, .int j => if 0 ≤ j then .ok (.int (i / 2 ^ j.toNat)) else .st
  | _, _ => .st
def andD : D → D → R D
  | .int i, .int j => .ok (.int (Builtin.bitAnd i j))
  | _, _ => .st
def orD : D → D → R D
  | .int i, .int j => .ok (.int (Builtin.bitOr i j))
  | _, _ => .st
def ltD : D → D → R D
  | .int i, .int j => .ok (.bl (decide (i < j)))
  | _, _ => .st
def leD : D → D → R D
  | .int i, .int j => .ok (.bl (decide (i ≤ j)))
  | _, _ => .st
def gtD : D → D → R D
  | .int i, .int j => .ok (.bl (decide (j < i)))
  | _, _ => .st
def geD : D → D → R D
  | .int i, .int j => .ok (.bl (decide (j ≤ i)))
  | _, _ => .st

section
variable {X : Cx}
theorem rI_opD {C : Int → Int → Prop} {w : Int → Int → V} {g : D → D → R D} (w' : Int → Int → D) (hw : ∀ i j H, Fu X.K H (w i j) (w' i j) [])
    (hg : ∀ d e z, g d e = .ok z → ∃ i j, d = .int i ∧ e = .int j ∧ C i j ∧ z = w' i j) : OpD X (rI C w) g := fun x y d e H Q z rx ry h q => by
  obtain ⟨i, j, rfl, rfl, c, rfl⟩ := hg d e z h
  cases rx
  cases ry
  exact ⟨i, j, rfl, rfl, c, q _ H [] (Same.refl H) (hw i j H) (fun _ h => nomatch h)⟩
theorem rI0_opD {w : Int → Int → V} {g : D → D → R D} (w' : Int → Int → D) (hw : ∀ i j H, Fu X.K H (w i j) (w' i j) [])
    (hg : ∀ d e z, g d e = .ok z → ∃ i j, d = .int i ∧ e = .int j ∧ z = w' i j) : OpD X (rI0 w) g := fun x y d e H Q z rx ry h q => by
  obtain ⟨i, j, rfl, rfl, rfl⟩ := hg d e z h
  cases rx
  cases ry
  exact ⟨i, j, rfl, rfl, q _ H [] (Same.refl H) (hw i j H) (fun _ h => nomatch h)⟩
theorem d_sub : OpD X (rI0 fun i j => .int (i - j)) subD := rI0_opD (fun i j => .int (i - j)) (fun i j H => .int _) fun d e z h => by
  unfold subD at h; split at h
  · cases h; exact ⟨_, _, rfl, rfl, rfl⟩
  · cases h
theorem d_and : OpD X (rI0 fun i j => .int (Builtin.bitAnd i j)) andD := rI0_opD (fun i j => .int (Builtin.bitAnd i j)) (fun i j H => .int _) fun d e z h => by
  unfold andD at h; split at h
  · cases h; exact ⟨_, _, rfl, rfl, rfl⟩
  · cases h
theorem d_or : OpD X (rI0 fun i j => .int (Builtin.bitOr i j)) orD := rI0_opD (fun i j => .int (Builtin.bitOr i j)) (fun i j H => .int _) fun d e z h => by
  unfold orD at h; split at h
  · cases h; exact ⟨_, _, rfl, rfl, rfl⟩
  · cases h
theorem d_lt : OpD X (rI0 fun i j => .bl (decide (i < j))) ltD := rI0_opD (fun i j => .bl (decide (i < j))) (fun i j H => .bl _) fun d e z h => by
  unfold ltD at h; split at h
  · cases h; exact ⟨_, _, rfl, rfl, rfl⟩
  · cases h
theorem d_le : OpD X (rI0 fun i j => .bl (decide (i ≤ j))) leD := rI0_opD (fun i j => .bl (decide (i ≤ j))) (fun i j H => .bl _) fun d e z h => by
  unfold leD at h; split at h
  · cases h; exact ⟨_, _, rfl, rfl, rfl⟩
  · cases h
theorem d_gt : OpD X (rI0 fun i j => .bl (decide (j < i))) gtD := rI0_opD (fun i j => .bl (decide (j < i))) (fun i j H => .bl _) fun d e z h => by
  unfold gtD at h; split at h
  · cases h; exact ⟨_, _, rfl, rfl, rfl⟩
  · cases h
theorem d_ge : OpD X (rI0 fun i j => .bl (decide (j ≤ i))) geD := rI0_opD (fun i j => .bl (decide (j ≤ i))) (fun i j H => .bl _) fun d e z h => by
  unfold geD at h; split at h
  · cases h; exact ⟨_, _, rfl, rfl, rfl⟩
  · cases h
theorem d_fdiv : OpD X (rI CDivW fun i j => .int (i / j)) fdivD := rI_opD (fun i j => .int (i / j)) (fun i j H => .int _) fun d e z h => by
  unfold fdivD at h; split at h
  · split at h
    · rename_i c; cases h; exact ⟨_, _, rfl, rfl, c, rfl⟩
    · cases h
  · cases h
theorem d_mod : OpD X (rI (fun _ j => 0 < j) fun i j => .int (i % j)) modD := rI_opD (fun i j => .int (i % j)) (fun i j H => .int _) fun d e z h => by
  unfold modD at h; split at h
  · split at h
    · rename_i c; cases h; exact ⟨_, _, rfl, rfl, c, rfl⟩
    · cases h
  · cases h
def CPowV (i j : Int) : Prop := 0 ≤ j ∧ (Builtin.Int.intBits i : Int) * j ≤ 2 ^ 27
theorem op_powV : OpR X (binaryOp .Pow) (rI CPowV fun i j => .int (i ^ j.toNat)) := opI fun _ _ _ _ _ _ _ hc q => pow_int hc.1 hc.2 q
theorem d_pow : OpD X (rI CPowV fun i j => .int (i ^ j.toNat)) powD := rI_opD (fun i j => .int (i ^ j.toNat)) (fun i j H => .int _) fun d e z h => by
  unfold powD at h; split at h
  · split at h
    · rename_i c; cases h; exact ⟨_, _, rfl, rfl, c, rfl⟩
    · cases h
  · cases h
theorem d_shl : OpD X (rI CShl fun i j => .int (i * 2 ^ j.toNat)) shlD := rI_opD (fun i j => .int (i * 2 ^ j.toNat)) (fun i j H => .int _) fun d e z h => by
  unfold shlD at h; split at h
  · split at h
    · rename_i c; cases h; exact ⟨_, _, rfl, rfl, c, rfl⟩
    · cases h
  · cases h
theorem d_shr : OpD X (rI (fun _ j => 0 ≤ j) fun i j => .int (i / 2 ^ j.toNat)) shrD := rI_opD (fun i j => .int (i / 2 ^ j.toNat)) (fun i j H => .int _) fun d e z h => by
  unfold shrD at h; split at h
  · split at h
    · rename_i c; cases h; exact ⟨_, _, rfl, rfl, c, rfl⟩
    · cases h
  · cases h

def rAddA (K : PySem.W.Frag) : R2 := fun x y H Q => (rI0 (fun i j => .int (i + j)) x y H Q) ∨ (∃ i j, x = .str i ∧ y = .str j ∧ i.length + j.length ≤ sizeLine ∧ Q (.str (i ++ j)) H) ∨ rCatR K x y H Q ∨ rCatA K x y H Q
theorem op_addA : OpR X (binaryOp .Add) (rAddA X.K) := op_add.or (op_add_str.or (op_catR.or op_catA))
theorem d_add : OpD X (rAddA X.K) addD := fun x y d e H Q z rx ry h q => by
  unfold addD at h
  split at h
  · cases h; cases rx; cases ry
    exact .inl ⟨_, _, rfl, rfl, q _ H [] (Same.refl H) (.int _) (fun _ h => nomatch h)⟩
  · split at h
    · rename_i c
      cases h; cases rx; cases ry
      exact .inr (.inl ⟨_, _, rfl, rfl, c, q _ H [] (Same.refl H) (.str _) (fun _ h => nomatch h)⟩)
    · cases h
  · split at h
    · rename_i c
      cases h
      cases rx with
      | lst h1 r1 =>
        cases ry with
        | lst h2 r2 =>
          refine .inr (.inr (.inl ⟨_, _, _, _, rfl, rfl, h1, h2, by rw [r1.length, r2.length]; exact c.1, fun p hp => ?_⟩))
          exact q _ _ [p] (new_same hp) (fu_new_lst hp (r1.app r2) (immDs_app c.2.1 c.2.2)) fun a ha => by
            rw [List.mem_singleton.mp ha]; exact hp
    · cases h
  · split at h
    · rename_i c
      cases h
      cases rx with
      | tup h1 r1 =>
        cases ry with
        | tup h2 r2 =>
          refine .inr (.inr (.inr ⟨_, _, _, _, rfl, rfl, h1.sq, h2.sq, by rw [r1.length, r2.length]; exact c.1, fun e => ?_, fun _ e => ?_, fun _ _ p hp => ?_⟩))
          · subst e
            cases r1
            exact q _ H [] (Same.refl H) (.tup h2 (r2.fu c.2.2)) (fun _ h => nomatch h)
          · subst e
            cases r2
            rw [List.append_nil] at q
            exact q _ H [] (Same.refl H) (.tup h1 (r1.fu c.2.1)) (fun _ h => nomatch h)
          · exact q _ _ [] (new_same hp) (fu_new_tup hp (r1.app r2) (immDs_app c.2.1 c.2.2)) (fun _ h => nomatch h)
    · cases h
  · cases h
theorem op_mulI : OpR X (binaryOp .Mult) (rI IntMulOk fun i j => .int (i * j)) := opI fun _ _ _ _ _ _ _ hc q => mul_int q hc
theorem d_mul : OpD X (rI IntMulOk fun i j => .int (i * j)) mulD := rI_opD (fun i j => .int (i * j)) (fun i j H => .int _) fun d e z h => by
  unfold mulD at h; split at h
  · split at h
    · rename_i c; cases h; exact ⟨_, _, rfl, rfl, c.ok, rfl⟩
    · cases h
  · cases h
theorem nx_rep : NoEx2 repD := fun d e c h => by unfold repD at h; split at h <;> first | cases h | (split at h <;> cases h)
/-- [..] * k -/
theorem vg_rep {W : WX} {a b : Expr} {f g : Env → R D} {pos : Pos} (ha : VG X W a f) (hb : VE X W b g) : VG X W (.BinOp a .Mult b pos) (op2 repD f g) := ⟨peW (pe_op op_rep ha.pe hb.pe) fun σ H Q ⟨ρ, re, o⟩ => ⟨ρ, re, (Out.bind o).mono fun d _ q v H1 A s1 f1 n1 => ⟨ρ, re.mono s1, ((Out.bind q).up s1).mono fun e _ q w H2 s2 r2 => by
  unfold repD at q
  split at q
  · split at q
    · rename_i c
      cases r2
      cases f1 with
      | lst h1 r1 n =>
        refine ⟨_, _, _, rfl, rfl, s2 _ _ h1, by omega, c.2.2.1, by rw [r1.length]; exact c.2.1, fun p hp => ?_⟩
        exact q _ _ [p] ((s1.trans s2).trans (new_same hp)) (fu_new_lst hp ((r1.rd.mono s2).flat _) (immDs_flat c.2.2.2 _)) fun a ha => by
          rw [List.mem_singleton.mp ha]; exact (s1.trans s2).free hp
    · exact q.elim
  · exact q.elim⟩⟩⟩
end
/-- none of these raises -/
theorem nx_add : NoEx2 addD := fun d e c h => by unfold addD at h; split at h <;> first | cases h | (split at h <;> cases h)
theorem nx_sub : NoEx2 subD := fun d e c h => by unfold subD at h; split at h <;> cases h
theorem nx_mul : NoEx2 mulD := fun d e c h => by unfold mulD at h; split at h <;> first | cases h | (split at h <;> cases h)
theorem nx_fdiv : NoEx2 fdivD := fun d e c h => by unfold fdivD at h; split at h <;> first | cases h | (split at h <;> cases h)
theorem nx_mod : NoEx2 modD := fun d e c h => by unfold modD at h; split at h <;> first | cases h | (split at h <;> cases h)
theorem nx_pow : NoEx2 powD := fun d e c h => by unfold powD at h; split at h <;> first | cases h | (split at h <;> cases h)
theorem nx_shl : NoEx2 shlD := fun d e c h => by unfold shlD at h; split at h <;> first | cases h | (split at h <;> cases h)
theorem nx_shr : NoEx2 shrD := fun d e c h => by unfold shrD at h; split at h <;> first | cases h | (split at h <;> cases h)
theorem nx_and : NoEx2 andD := fun d e c h => by unfold andD at h; split at h <;> cases h
theorem nx_or : NoEx2 orD := fun d e c h => by unfold orD at h; split at h <;> cases h
theorem nx_lt : NoEx2 ltD := fun d e c h => by unfold ltD at h; split at h <;> cases h
theorem nx_le : NoEx2 leD := fun d e c h => by unfold leD at h; split at h <;> cases h
theorem nx_gt : NoEx2 gtD := fun d e c h => by unfold gtD at h; split at h <;> cases h
theorem nx_ge : NoEx2 geD := fun d e c h => by unfold geD at h; split at h <;> cases h
end Vs

namespace Vs
open PySem PySem.Spec PyProof.Rows L2

/-! ### equality -/
mutual
def pyD : D → PyData
  | .non => .none
  | .bl b => .bool b
  | .int i => .int i
  | .str x => .str x
  | .lst xs => .list (pyDs xs)
  | .fz xs => .list (pyDs xs)
  | .tup xs => .tuple (pyDs xs)
  | .dic _ _ _ => .dict []
  | .fn _ => .dict []
  | .exc _ _ => .dict []
  | .obj _ _ _ => .dict []
def pyDs : List D → List PyData
  | [] => []
  | x :: xs => pyD x :: pyDs xs
end
section
variable {K : PySem.W.Frag} {H : Hp}
mutual
theorem Rd.dp : ∀ {v : V} {d : D}, Rd K H v d → (pyD d).canLay0 = true → Dp K H v (pyD d)
  | _, _, .non, _ => .non
  | _, _, .bl b, _ => .bl b
  | _, _, .int i, _ => .int i
  | _, _, .str x, _ => .str x
  | _, _, .fn n, m => by rw [pyD] at m; cases m
  | _, _, .exc c a, m => by rw [pyD] at m; cases m
  | _, _, .lst h r, m => by
    rw [pyD] at m ⊢
    exact .lst h (Rds.dps r m)
  | _, _, .fz h r, m => by
    rw [pyD] at m ⊢
    exact .lst (.inl (.inr ⟨_, h⟩)) (Rds.dps r m)
  | _, _, .tup h r, m => by
    rw [pyD] at m ⊢
    exact .tup h.sq (Rds.dps r m)
  | _, _, .dk _ _ _, m => by rw [pyD] at m; cases m
  | _, _, .dt _ _ _, m => by rw [pyD] at m; cases m
  | _, _, .obj _ _ _ _ _, m => by rw [pyD] at m; cases m
theorem Rds.dps : ∀ {vs : List V} {ds : List D}, Rds K H vs ds → PyData.canLayAll0 (pyDs ds) = true → DpAll K H vs (pyDs ds)
  | _, _, .nil, _ => .nil
  | _, _, .cons h r, m => by
    rw [pyDs] at m ⊢
    have m' : (pyD _).canLay0 = true ∧ PyData.canLayAll0 (pyDs _) = true := Bool.and_eq_true_iff.mp m
    exact .cons (Rd.dp h m'.1) (Rds.dps r m'.2)
end
end
def eqB (d e : D) : Bool := PyData.eqv (pyD d) (pyD e)
def eqD (d e : D) : R D := if SeqAt.shaped (pyD d) = true ∧ SeqAt.shaped (pyD e) = true then .ok (.bl (eqB d e)) else .st
def neD (d e : D) : R D := if SeqAt.shaped (pyD d) = true ∧ SeqAt.shaped (pyD e) = true then .ok (.bl (!eqB d e)) else .st
def isNonB : D → Bool
  | .non => true
  | _ => false
def isD (d e : D) : R D := match e with
  | .non => .ok (.bl (isNonB d))
  | _ => .st
def isNotD (d e : D) : R D := match e with
  | .non => .ok (.bl (!isNonB d))
  | _ => .st
theorem nx_eq : NoEx2 eqD := fun d e c h => by unfold eqD at h; split at h <;> cases h
theorem nx_ne : NoEx2 neD := fun d e c h => by unfold neD at h; split at h <;> cases h
theorem nx_is : NoEx2 isD := fun d e c h => by unfold isD at h; split at h <;> cases h
theorem nx_isNot : NoEx2 isNotD := fun d e c h => by unfold isNotD at h; split at h <;> cases h
def rIsNo : R2 := fun x y H Q => y = .non ∧ Q (.bl (decide (x = .non))) H
def rIsNotNo : R2 := fun x y H Q => y = .non ∧ Q (.bl (!decide (x = .non))) H
theorem isNonB_eq {K : PySem.W.Frag} {H : Hp} {v : V} {d : D} (r : Rd K H v d) : decide (v = .non) = isNonB d := by
  cases r <;> rfl
section
variable {X : Cx}
theorem d_eq : OpD X (rEqD X.K) eqD := fun x y d e H Q z rx ry h q => by
  unfold eqD at h
  split at h
  · rename_i c
    cases h
    exact ⟨_, _, rx.dp (SeqAt.canLay_of_shaped c.1), ry.dp (SeqAt.canLay_of_shaped c.2), c.1, c.2, q _ H [] (Same.refl H) (.bl _) (fun _ h => nomatch h)⟩
  · cases h
theorem d_ne : OpD X (rNeD X.K) neD := fun x y d e H Q z rx ry h q => by
  unfold neD at h
  split at h
  · rename_i c
    cases h
    exact ⟨_, _, rx.dp (SeqAt.canLay_of_shaped c.1), ry.dp (SeqAt.canLay_of_shaped c.2), c.1, c.2, q _ H [] (Same.refl H) (.bl _) (fun _ h => nomatch h)⟩
  · cases h
theorem d_is : OpD X rIsNo isD := fun x y d e H Q z rx ry h q => by
  unfold isD at h
  split at h
  · cases h
    cases ry
    refine ⟨rfl, ?_⟩
    rw [isNonB_eq rx]
    exact q _ H [] (Same.refl H) (.bl _) (fun _ h => nomatch h)
  · cases h
theorem d_isNot : OpD X rIsNotNo isNotD := fun x y d e H Q z rx ry h q => by
  unfold isNotD at h
  split at h
  · cases h
    cases ry
    refine ⟨rfl, ?_⟩
    rw [isNonB_eq rx]
    exact q _ H [] (Same.refl H) (.bl _) (fun _ h => nomatch h)
  · cases h
end

section
variable {X : Cx} {W : WX} {e a b c : Expr} {es : List Expr} {f g h : Env → R D} {fs : Env → R (List D)} {pos : Pos}

/-! ### -x -/
def negD : D → R D
  | .int i => .ok (.int (-i))
  | _ => .st
def negE (f : Env → R D) (ρ : Env) : R D := (f ρ).bind negD
theorem vg_neg (ha : VE X W a f) : VG X W (.UnaryOp .USub a pos) (negE f) := ⟨peW (pe_un un_neg ha.pe) fun σ H Q ⟨ρ, re, o⟩ => ⟨ρ, re, (Out.bind o).mono fun d _ q v H1 s1 r1 => by
  unfold negD at q
  split at q
  · cases r1
    exact ⟨_, rfl, q _ H1 [] s1 (.int _) (fun _ h => nomatch h)⟩
  · exact q.elim⟩⟩

/-! ### an item -/
def ixD : D → D → R D
  | .lst xs, .int i => match atI xs i with | some d => .ok d | none => .st
  | .tup xs, .int i => match atI xs i with | some d => .ok d | none => .st
  | .str z, .int i => if z.length ≤ sizeLine then (match atI z.cps.toList i with | some c => .ok (.str ⟨#[c]⟩) | none => .st) else .st
  | _, _ => .st
theorem atI_rd {K : PySem.W.Frag} {H : Hp} {vs : List V} {ds : List D} (r : Rds K H vs ds) {i : Int} {d : D} (h : atI ds i = some d) : ∃ v, atI vs i = some v ∧ Rd K H v d := by
  unfold atI at h ⊢
  rw [r.length]
  cases e : ixN ds.length i with
  | none => rw [e] at h; cases h
  | some j => rw [e] at h; exact r.get h
theorem ve_ix (ha : VE X W a f) (hb : VE X W b g) (hs : PlainIx b) : VE X W (.Subscript a b pos) (op2 ixD f g) :=
  ⟨peW (pe_ix ix_seq ha.pe hb.pe hs) fun σ H Q ⟨ρ, re, o⟩ => ⟨ρ, re, (Out.bind o).mono fun d _ q v H1 s1 r1 => ⟨ρ, re.mono s1, ((Out.bind q).up s1).mono fun e _ q w H2 s2 r2 => by
    unfold ixD at q
    split at q
    · split at q
      · rename_i hx
        cases r2
        cases r1 with
        | lst h1 r1 =>
          obtain ⟨u, hu, ru⟩ := atI_rd r1 hx
          exact .inl ⟨_, _, _, u, rfl, rfl, s2.seq h1, hu, q u H2 (s1.trans s2) (ru.mono s2)⟩
      · exact q.elim
    · split at q
      · rename_i hx
        cases r2
        cases r1 with
        | tup h1 r1 =>
          obtain ⟨u, hu, ru⟩ := atI_rd r1 hx
          exact .inr (.inl ⟨_, _, _, u, rfl, rfl, (seqT s2 h1).sq, hu, q u H2 (s1.trans s2) (ru.mono s2)⟩)
      · exact q.elim
    · split at q
      · rename_i hz
        split at q
        · rename_i hx
          cases r2
          cases r1
          exact .inr (.inr ⟨_, _, _, rfl, rfl, hz, hx, q _ H2 (s1.trans s2) (.str _)⟩)
        · exact q.elim
      · exact q.elim
    · exact q.elim⟩⟩⟩

/-! ### slices -/
def cutL {α : Type} (xs : List α) (lo hi : Option Int) : List α := (xs.drop (HT.sIx xs.length 0 lo)).take (HT.sIx xs.length xs.length hi - HT.sIx xs.length 0 lo)
theorem Rds.take {K : PySem.W.Frag} {H : Hp} : ∀ {vs : List V} {ds : List D} (n : Nat), Rds K H vs ds → Rds K H (vs.take n) (ds.take n)
  | _, _, 0, _ => .nil
  | _, _, _ + 1, .nil => .nil
  | _, _, n + 1, .cons h r => .cons h (Rds.take n r)
theorem Rds.drop {K : PySem.W.Frag} {H : Hp} : ∀ {vs : List V} {ds : List D} (n : Nat), Rds K H vs ds → Rds K H (vs.drop n) (ds.drop n)
  | _, _, 0, r => r
  | _, _, _ + 1, .nil => .nil
  | _, _, n + 1, .cons h r => Rds.drop n r
theorem Rds.cut {K : PySem.W.Frag} {H : Hp} {vs : List V} {ds : List D} (r : Rds K H vs ds) (lo hi : Option Int) : Rds K H (cutV vs lo hi) (cutL ds lo hi) := by
  unfold cutV cutL
  rw [r.length]
  exact (r.drop _).take _
def slD (d : D) (lo hi : Option Int) : R D := match d with
  | .lst xs => .ok (.lst (cutL xs lo hi))
  | .str z => if z.length ≤ sizeLine then .ok (.str (cutS z lo hi)) else .st
  | .tup xs => .ok (.tup (cutL xs lo hi))
  | _ => .st
theorem cut_whole {α : Type} {xs : List α} {lo hi : Option Int} (h : HT.sIx xs.length 0 lo = 0 ∧ HT.sIx xs.length xs.length hi = xs.length) : cutL xs lo hi = xs := by
  unfold cutL
  rw [h.1, h.2, List.drop_zero, Nat.sub_zero, List.take_length]
structure VO (X : Cx) (W : WX) (e : Option Expr) (f : Env → R (Option Int)) : Prop where
  po : PO X e (fun σ H Q => ∃ ρ, REnv X.K ρ σ H ∧ Out X.mg W σ H (f ρ) fun o => ∀ H', Same H H' → Q o H')
theorem poW {X : Cx} {e : Option Expr} {t u : TO} (h : PO X e t) (q : ∀ σ H Q, u σ H Q → t σ H Q) : PO X e u := ⟨fun pins s σ H Q I x => h.run pins s σ H Q I (q σ H Q x)⟩
def noO (_ : Env) : R (Option Int) := .ok none
def someO (f : Env → R D) (ρ : Env) : R (Option Int) := (f ρ).bind fun d => match d with | .int i => .ok (some i) | _ => .st
theorem vo_none : VO X W none noO := ⟨poW po_none fun σ H Q ⟨ρ, re, o⟩ => o H (Same.refl H)⟩
theorem vo_some (ha : VE X W a f) : VO X W (some a) (someO f) := ⟨poW (po_some ha.pe) fun σ H Q ⟨ρ, re, o⟩ => ⟨ρ, re, (Out.bind o).mono fun d _ q v H1 s1 r1 => by
  cases r1 with
  | int i => exact ⟨i, rfl, q H1 s1⟩
  | _ => exact q.elim⟩⟩
def slE (f : Env → R D) (lo hi : Env → R (Option Int)) (ρ : Env) : R D := (f ρ).bind fun d => (lo ρ).bind fun l => (hi ρ).bind fun u => slD d l u
def rSlA (K : PySem.W.Frag) : V → Option Int → Option Int → Hp → VK → Prop := fun x lo hi H Q => rSlL K x lo hi H Q ∨ rSlS x lo hi H Q ∨ L2.rSlA K x lo hi H Q
theorem sl_any : SlR X (rSlA X.K) := sl_list.or (sl_str.or sl_tupA)
theorem ve_sl {lo hi : Option Expr} {l u : Env → R (Option Int)} {p2 : Pos} (ha : VE X W a f) (hl : VO X W lo l) (hu : VO X W hi u) : VE X W (.Subscript a (.Slice lo hi none p2) pos) (slE f l u) :=
  ⟨peW (pe_slice sl_any ha.pe hl.po hu.po) fun σ H Q ⟨ρ, re, o⟩ => ⟨ρ, re, (Out.bind o).mono fun d _ q v H1 s1 r1 => ⟨ρ, re.mono s1, ((Out.bind q).up s1).mono fun l _ q H2 s2 => ⟨ρ, re.mono (s1.trans s2), ((Out.bind q).up (s1.trans s2)).mono fun u _ q H3 s3 => by
    unfold slD at q
    split at q
    · cases r1 with
      | lst h1 r1 =>
        refine .inl ⟨_, _, rfl, (s2.trans s3).seq h1, fun p hp => ?_⟩
        exact q _ _ ((s1.trans (s2.trans s3)).trans (new_same hp)) (.lst (SqL.of upd_same) ((r1.mono ((s2.trans s3).trans (new_same hp))).cut _ _))
    · split at q
      · rename_i hz
        cases r1
        exact .inr (.inl ⟨_, rfl, hz, q _ H3 (s1.trans (s2.trans s3)) (.str _)⟩)
      · exact q.elim
    · cases r1 with
      | tup h1 r1 =>
        have h2 := seqT (s2.trans s3) h1
        have r2 := r1.mono (s2.trans s3)
        refine .inr (.inr ⟨_, _, rfl, h2.sq, fun hw => ?_, fun hw p hp => ?_⟩)
        · rw [r2.length] at hw
          rw [cut_whole hw] at q
          exact q _ H3 (s1.trans (s2.trans s3)) (.tup h2 r2)
        · exact q _ _ ((s1.trans (s2.trans s3)).trans (new_same hp)) (.tup (.inl upd_same) ((r2.mono (new_same hp)).cut _ _))
    · exact q.elim⟩⟩⟩⟩
/-- a slice of what is no list within: new -/
def immL : D → R D
  | .lst xs => if immDs xs = true then .ok (.lst xs) else .st
  | d => if immD d = true then .ok d else .st
def slG (f : Env → R D) (lo hi : Env → R (Option Int)) (ρ : Env) : R D := (slE f lo hi ρ).bind immL
theorem slG_tup {a : Addr} {vs : List V} {ds : List D} {l u : Option Int} {σ : L2.St} {H H3 : Hp} {Q : VK} (s : Same H H3) (h2 : TpT X.K H3 a vs) (r2 : Rds X.K H3 vs ds) (q : Out X.mg W σ H (immL (.tup (cutL ds l u))) fun d => ∀ v H' A, Same H H' → Fu X.K H' v d A → (∀ a ∈ A, H a = none) → Q v H') :
    L2.rSlA X.K (.ref a) l u H3 Q := by
  have q : Out X.mg W σ H (if immD (D.tup (cutL ds l u)) = true then R.ok (D.tup (cutL ds l u)) else R.st) _ := q
  by_cases m : immD (D.tup (cutL ds l u)) = true
  · rw [if_pos m] at q
    have m2 : immDs (cutL ds l u) = true := by rw [immD] at m; exact m
    refine ⟨_, _, rfl, h2.sq, fun hw => ?_, fun hw p hp => ?_⟩
    · have hwh : cutL ds l u = ds := cut_whole (by rw [← r2.length]; exact hw)
      rw [hwh] at q m2
      exact q _ H3 [] s (.tup h2 (r2.fu m2)) (fun _ h => nomatch h)
    · exact q _ _ [] (s.trans (new_same hp)) (fu_new_tup hp (r2.cut l u) m2) (fun _ h => nomatch h)
  · rw [if_neg m] at q
    exact q.elim
theorem vg_sl {lo hi : Option Expr} {l u : Env → R (Option Int)} {p2 : Pos} (ha : VE X W a f) (hl : VO X W lo l) (hu : VO X W hi u) : VG X W (.Subscript a (.Slice lo hi none p2) pos) (slG f l u) :=
  ⟨peW (pe_slice sl_any ha.pe hl.po hu.po) fun σ H Q ⟨ρ, re, o⟩ => ⟨ρ, re, (Out.bind (show Out X.mg W σ H (slE f l u ρ) _ from Out.bind o)).mono fun d _ q v H1 s1 r1 => ⟨ρ, re.mono s1, ((Out.bind q).up s1).mono fun l _ q H2 s2 => ⟨ρ, re.mono (s1.trans s2), ((Out.bind q).up (s1.trans s2)).mono fun u _ q H3 s3 => by
    unfold slD at q
    split at q
    · cases r1 with
      | lst h1 r1 =>
        refine .inl ⟨_, _, rfl, (s2.trans s3).seq h1, fun p hp => ?_⟩
        have r4 := (r1.mono (s2.trans s3)).cut l u
        generalize cutL _ l u = ys at q r4
        have q : Out X.mg W σ H (if immDs ys = true then R.ok (D.lst ys) else R.st) _ := q
        by_cases m : immDs ys = true
        · rw [if_pos m] at q
          exact q _ _ [p] ((s1.trans (s2.trans s3)).trans (new_same hp)) (fu_new_lst hp r4 m) fun a ha => by
            rw [List.mem_singleton.mp ha]; exact (s1.trans (s2.trans s3)).free hp
        · rw [if_neg m] at q
          exact q.elim
    · split at q
      · rename_i hz
        cases r1
        have q : Out X.mg W σ H (R.ok (D.str (cutS _ l u))) _ := q
        exact .inr (.inl ⟨_, rfl, hz, q _ H3 [] (s1.trans (s2.trans s3)) (.str _) (fun _ h => nomatch h)⟩)
      · exact q.elim
    · cases r1 with
      | tup h1 r1 => exact .inr (.inr (slG_tup (s1.trans (s2.trans s3)) (seqT (s2.trans s3) h1) (r1.mono (s2.trans s3)) q))
    · exact q.elim⟩⟩⟩⟩

/-! ### displays -/
def LenA (f : Env → R (List D)) (n : Nat) : Prop := ∀ ρ ds, f ρ = .ok ds → ds.length = n
theorem len_nil : LenA nilA 0 := fun ρ ds h => by cases h; rfl
theorem len_cons {n : Nat} (h : LenA fs n) : LenA (consA f fs) (n + 1) := fun ρ ds e => by
  unfold consA at e
  cases h1 : f ρ with
  | ok d =>
    rw [h1] at e
    cases h2 : fs ρ with
    | ok es =>
      rw [R.bind_ok, h2, R.bind_ok] at e
      cases e
      rw [List.length_cons, h ρ es h2]
    | st => rw [R.bind_ok, h2] at e; cases e
    | ex c => rw [R.bind_ok, h2] at e; cases e
  | st => rw [h1] at e; cases e
  | ex c => rw [h1] at e; cases e
def lstE (fs : Env → R (List D)) (ρ : Env) : R D := (fs ρ).bind fun ds => .ok (.lst ds)
def tupE (fs : Env → R (List D)) (ρ : Env) : R D := (fs ρ).bind fun ds => .ok (.tup ds)
theorem le_line {n m : Nat} (h : m = n) (k : n ≤ 1000) : m ≤ sizeLine := by rw [h]; exact Nat.le_trans k (by decide)
theorem ve_tup {n : Nat} {x1} (ha : VA X W es fs) (hl : LenA fs n) (hn : n ≤ 1000 := by decide) : VE X W (.Tuple es x1 pos) (tupE fs) := ⟨peW (pe_tup ha.pa) fun σ H Q ⟨ρ, re, o⟩ => ⟨ρ, re, (Out.bind o).mono fun ds hd q vs H1 s1 r1 =>
  ⟨le_line (r1.length.trans (hl ρ ds hd)) hn, fun p hp => q _ _ (s1.trans (new_same hp)) (.tup (.inl upd_same) (r1.mono (new_same hp)))⟩⟩⟩
theorem vg_tup {n : Nat} {x1} (ha : VB X W es fs) (hl : LenA fs n) (hn : n ≤ 1000 := by decide) : VG X W (.Tuple es x1 pos) (tupE fs) := ⟨peW (pe_tup ha.pa) fun σ H Q ⟨ρ, re, o⟩ => ⟨ρ, re, (Out.bind o).mono fun ds hd q vs H1 A s1 r1 n1 =>
  ⟨le_line (r1.length.trans (hl ρ ds hd)) hn, fun p hp => q _ _ A (s1.trans (new_same hp)) (.tup (.inl upd_same) (r1.same (new_same hp))) n1⟩⟩⟩
theorem ve_lst {n : Nat} (ha : VA X W es fs) (hl : LenA fs n) (hn : n ≤ 1000 := by decide) : VE X W (.List es pos) (lstE fs) := ⟨peW (pe_lst ha.pa) fun σ H Q ⟨ρ, re, o⟩ => ⟨ρ, re, (Out.bind o).mono fun ds hd q vs H1 s1 r1 =>
  ⟨le_line (r1.length.trans (hl ρ ds hd)) hn, fun p hp => q _ _ (s1.trans (new_same hp)) (.lst (SqL.of upd_same) (r1.mono (new_same hp)))⟩⟩⟩
theorem vg_lst {n : Nat} (ha : VB X W es fs) (hl : LenA fs n) (hn : n ≤ 1000 := by decide) : VG X W (.List es pos) (lstE fs) := ⟨peW (pe_lst ha.pa) fun σ H Q ⟨ρ, re, o⟩ => ⟨ρ, re, (Out.bind o).mono fun ds hd q vs H1 A s1 r1 n1 =>
  ⟨le_line (r1.length.trans (hl ρ ds hd)) hn, fun p hp => q _ _ (p :: A) (s1.trans (new_same hp)) (.lst upd_same (r1.same (new_same hp)) fun m => by obtain ⟨o, ho⟩ := r1.there p m; rw [ho] at hp; cases hp)
    fun a m => (List.mem_cons.mp m).elim (fun z => by rw [z]; exact s1.free hp) fun z => n1 a z⟩⟩⟩

/-! ### truths -/
def boolR (f : Env → R D) (ρ : Env) : R Bool := (f ρ).bind fun d => match d with | .bl b => .ok b | _ => .st
def andE (f g : Env → R D) (ρ : Env) : R D := (boolR f ρ).bind fun b => if b = true then g ρ else .ok (.bl false)
def orE (f g : Env → R D) (ρ : Env) : R D := (boolR f ρ).bind fun b => if b = true then .ok (.bl true) else g ρ
def notE (f : Env → R D) (ρ : Env) : R D := (boolR f ρ).bind fun b => .ok (.bl (!b))
theorem boolR_out {σ : L2.St} {H : Hp} {ρ : Env} {P : Bool → Prop} (o : Out X.mg W σ H (boolR f ρ) P) : Out X.mg W σ H (f ρ) fun d => ∃ b, d = .bl b ∧ P b := by
  unfold boolR at o
  refine (Out.bind o).mono fun d _ q => ?_
  cases d with
  | bl b => exact ⟨b, rfl, q⟩
  | _ => exact q.elim
theorem vg_one {op} (ha : VG X W a f) : VG X W (.BoolOp op [a] pos) f := ⟨pe_one ha.pe⟩
theorem vg_and {rest : List Expr} (ha : VE X W a f) (hb : VG X W (.BoolOp .And (b :: rest) pos) g) : VG X W (.BoolOp .And (a :: b :: rest) pos) (andE f g) :=
  ⟨peW (pe_and ha.pe hb.pe) fun σ H Q ⟨ρ, re, o⟩ => ⟨ρ, re, (boolR_out (Out.bind o)).mono fun d _ ⟨k, e, q⟩ v H1 s1 r1 => by
    subst e
    cases r1
    refine ⟨k, rfl, ?_⟩
    cases k with
    | true =>
      rw [if_pos rfl] at q ⊢
      exact ⟨ρ, re.mono s1, (q.up s1).mono fun d _ q v H2 A s2 f2 n2 => q v H2 A (s1.trans s2) f2 fun a m => s1.free (n2 a m)⟩
    | false =>
      rw [if_neg Bool.false_ne_true] at q ⊢
      exact q _ H1 [] s1 (.bl _) (fun _ h => nomatch h)⟩⟩
theorem vg_or {rest : List Expr} (ha : VE X W a f) (hb : VG X W (.BoolOp .Or (b :: rest) pos) g) : VG X W (.BoolOp .Or (a :: b :: rest) pos) (orE f g) :=
  ⟨peW (pe_or ha.pe hb.pe) fun σ H Q ⟨ρ, re, o⟩ => ⟨ρ, re, (boolR_out (Out.bind o)).mono fun d _ ⟨k, e, q⟩ v H1 s1 r1 => by
    subst e
    cases r1
    refine ⟨k, rfl, ?_⟩
    cases k with
    | false =>
      rw [if_neg Bool.false_ne_true] at q ⊢
      exact ⟨ρ, re.mono s1, (q.up s1).mono fun d _ q v H2 A s2 f2 n2 => q v H2 A (s1.trans s2) f2 fun a m => s1.free (n2 a m)⟩
    | true =>
      rw [if_pos rfl] at q ⊢
      exact q _ H1 [] s1 (.bl _) (fun _ h => nomatch h)⟩⟩
theorem vg_not (ha : VE X W a f) : VG X W (.UnaryOp .Not a pos) (notE f) :=
  ⟨peW (pe_not ha.pe) fun σ H Q ⟨ρ, re, o⟩ => ⟨ρ, re, (boolR_out (Out.bind o)).mono fun d _ ⟨k, e, q⟩ v H1 s1 r1 => by
    subst e
    cases r1
    exact ⟨k, rfl, q _ H1 [] s1 (.bl _) (fun _ h => nomatch h)⟩⟩⟩

/-! ### tests -/
def andT (f g : Env → R Bool) (ρ : Env) : R Bool := (f ρ).bind fun b => if b = true then g ρ else .ok false
def orT (f g : Env → R Bool) (ρ : Env) : R Bool := (f ρ).bind fun b => if b = true then .ok true else g ρ
def notT (f : Env → R Bool) (ρ : Env) : R Bool := (f ρ).bind fun b => .ok (!b)
theorem vt_val (ha : VE X W a f) (he : ∀ whole, isTrue a X.env whole = (do let v ← whole; standAt a.pos; holding [v] (truthy v)) := by intro _; rfl) : VT X W a (boolR f) :=
  ⟨ptW (pt_val ha.pe he) fun σ H Q ⟨ρ, re, o⟩ => ⟨ρ, re, (boolR_out o).mono fun d _ ⟨k, e, q⟩ v H1 s1 r1 => by
    subst e
    cases r1
    exact ⟨k, rfl, q H1 s1⟩⟩⟩
theorem tTest_of {r : R2} {gd : D → D → R D} (k : OpD X r gd) (n : NoEx2 gd) {σ : L2.St} {H : Hp} {Q : Bool → Hp → Prop} (hh : tT X.K X.mg W (boolR (op2 gd f g)) σ H Q) : tTest (tOp r (tF X.K X.mg W f) (tF X.K X.mg W g)) σ H Q := by
  obtain ⟨ρ, re, o⟩ := hh
  refine tOp_of k n ⟨ρ, re, (boolR_out o).mono fun d _ ⟨k, e, q⟩ v H1 A s1 f1 n1 => ?_⟩
  subst e
  cases f1
  exact ⟨k, rfl, q H1 s1⟩
theorem vt_cmp {op : CmpOp} {r : R2} {gd : D → D → R D} (ho : OpR X (compareOp op) r) (k : OpD X r gd) (n : NoEx2 gd) (ha : VE X W a f) (hb : VE X W b g) (hm : behindInMarks op b = false) : VT X W (.Compare a [op] [b] pos) (boolR (op2 gd f g)) :=
  ⟨ptW (pt_cmpR ho ha.pe hb.pe hm) fun σ H Q q => tTest_of k n q⟩
theorem VW.vt {f : Env → R Bool} (h : VW X W a f) : VT X W a f := ⟨h.pw.pt⟩
theorem vw_and1 {f : Env → R Bool} (ha : VT X W a f) : VW X W (.BoolOp .And [a] pos) f := ⟨pw_and1 ha.pt⟩
theorem vw_or1 {f : Env → R Bool} (ha : VT X W a f) : VW X W (.BoolOp .Or [a] pos) f := ⟨pw_or1 ha.pt⟩
theorem vw_and {f g : Env → R Bool} {rest : List Expr} (ha : VT X W a f) (hb : VW X W (.BoolOp .And (b :: rest) pos) g) : VW X W (.BoolOp .And (a :: b :: rest) pos) (andT f g) :=
  ⟨pwW (pw_and ha.pt hb.pw) fun σ H Q ⟨ρ, re, o⟩ => ⟨ρ, re, (Out.bind o).mono fun k _ q H1 s1 => by
    cases k with
    | true => exact ⟨ρ, re.mono s1, ((show Out X.mg W σ H (g ρ) _ from q).up s1).mono fun k _ q H2 s2 => q H2 (s1.trans s2)⟩
    | false => exact q H1 s1⟩⟩
theorem vw_or {f g : Env → R Bool} {rest : List Expr} (ha : VT X W a f) (hb : VW X W (.BoolOp .Or (b :: rest) pos) g) : VW X W (.BoolOp .Or (a :: b :: rest) pos) (orT f g) :=
  ⟨pwW (pw_or ha.pt hb.pw) fun σ H Q ⟨ρ, re, o⟩ => ⟨ρ, re, (Out.bind o).mono fun k _ q H1 s1 => by
    cases k with
    | true => exact q H1 s1
    | false => exact ⟨ρ, re.mono s1, ((show Out X.mg W σ H (g ρ) _ from q).up s1).mono fun k _ q H2 s2 => q H2 (s1.trans s2)⟩⟩⟩
theorem vt_not {f : Env → R Bool} (ha : VT X W a f) : VT X W (.UnaryOp .Not a pos) (notT f) :=
  ⟨ptW (pt_not ha.pt) fun σ H Q ⟨ρ, re, o⟩ => ⟨ρ, re, (Out.bind o).mono fun k _ q H1 s1 => q H1 s1⟩⟩
/-! ### a if t else b -/
def ifE (t : Env → R Bool) (f g : Env → R D) (ρ : Env) : R D := (t ρ).bind fun b => if b = true then f ρ else g ρ
theorem ve_if {t : Env → R Bool} (hc : VT X W c t) (ha : VE X W a f) (hb : VE X W b g) : VE X W (.IfExp c a b pos) (ifE t f g) :=
  ⟨peW (pe_ifExp hc.pt ha.pe hb.pe) fun σ H Q ⟨ρ, re, o⟩ => ⟨ρ, re, (Out.bind o).mono fun k _ q H1 s1 => by
    cases k with
    | true => exact ⟨ρ, re.mono s1, ((show Out X.mg W σ H (f ρ) _ from q).up s1).mono fun d _ q v H2 s2 r2 => q v H2 (s1.trans s2) r2⟩
    | false => exact ⟨ρ, re.mono s1, ((show Out X.mg W σ H (g ρ) _ from q).up s1).mono fun d _ q v H2 s2 r2 => q v H2 (s1.trans s2) r2⟩⟩⟩

/-! ### a < b < c -/
def chD (gd gd' : D → D → R D) (f g h : Env → R D) (ρ : Env) : R D := (f ρ).bind fun x => (g ρ).bind fun y => (gd x y).bind fun z => match z with
  | .bl true => (h ρ).bind fun w => gd' y w
  | .bl false => .ok (.bl false)
  | _ => .st
theorem tCh_of {r r' : R2} {gd gd' : D → D → R D} (k : OpD X r gd) (n : NoEx2 gd) (k' : OpD X r' gd') (n' : NoEx2 gd') {σ : L2.St} {H : Hp} {Q : VK} (hh : tG X.K X.mg W (chD gd gd' f g h) σ H Q) :
    tChain r r' (tF X.K X.mg W f) (tF X.K X.mg W g) (tF X.K X.mg W h) σ H Q := by
  obtain ⟨ρ, re, o⟩ := hh
  refine ⟨ρ, re, (Out.bind o).mono fun x _ q v H1 s1 r1 => ?_⟩
  refine ⟨ρ, re.mono s1, ((Out.bind q).up s1).mono fun y _ q w H2 s2 r2 => ?_⟩
  have q := Out.bind q
  cases hz : gd x y with
  | ok z =>
    rw [hz] at q
    have q : Out X.mg W σ H (match z with | .bl true => (h ρ).bind fun w => gd' y w | .bl false => .ok (.bl false) | _ => .st) _ := q
    refine k v w x y H2 _ z (r1.mono s2) r2 hz fun u H3 A s3 f3 n3 => ?_
    cases f3 with
    | bl b =>
      refine ⟨b, rfl, ?_⟩
      cases b with
      | true =>
        refine ⟨ρ, re.mono ((s1.trans s2).trans s3), ((Out.bind q).up ((s1.trans s2).trans s3)).mono fun e _ q t H4 s4 r4 => ?_⟩
        cases hz' : gd' y e with
        | ok z' =>
          rw [hz'] at q
          exact k' w t y e H4 Q z' (r2.mono (s3.trans s4)) r4 hz' fun u H5 A s5 f5 n5 => q u H5 A ((((s1.trans s2).trans s3).trans s4).trans s5) f5 fun a ha => (((s1.trans s2).trans s3).trans s4).free (n5 a ha)
        | ex c => exact absurd hz' (n' y e c)
        | st => rw [hz'] at q; exact q.elim
      | false => exact q _ H3 [] ((s1.trans s2).trans s3) (.bl _) (fun _ h => nomatch h)
    | _ => exact q.elim
  | ex c => exact absurd hz (n x y c)
  | st => rw [hz] at q; exact q.elim
theorem vg_ch {op op' : CmpOp} {r r' : R2} {gd gd' : D → D → R D} (ho : OpR X (compareOp op) r) (ho' : OpR X (compareOp op') r') (k : OpD X r gd) (n : NoEx2 gd) (k' : OpD X r' gd') (n' : NoEx2 gd') (ha : VE X W a f) (hb : VE X W b g) (hc : VE X W c h)
    (hm : lastMarks [op, op'] [b, c] = false := by with_unfolding_all rfl) : VG X W (.Compare a [op, op'] [b, c] pos) (chD gd gd' f g h) := ⟨peW (pe_chain ho ho' ha.pe hb.pe hc.pe hm) fun σ H Q q => tCh_of k n k' n' q⟩
theorem vt_ch {op op' : CmpOp} {r r' : R2} {gd gd' : D → D → R D} (ho : OpR X (compareOp op) r) (ho' : OpR X (compareOp op') r') (k : OpD X r gd) (n : NoEx2 gd) (k' : OpD X r' gd') (n' : NoEx2 gd') (ha : VE X W a f) (hb : VE X W b g) (hc : VE X W c h)
    (hm : lastMarks [op, op'] [b, c] = false := by with_unfolding_all rfl) : VT X W (.Compare a [op, op'] [b, c] pos) (boolR (chD gd gd' f g h)) := ⟨ptW (pt_chain ho ho' ha.pe hb.pe hc.pe hm) fun σ H Q ⟨ρ, re, o⟩ =>
  tCh_of k n k' n' ⟨ρ, re, (boolR_out o).mono fun d _ ⟨kk, e, q⟩ v H1 A s1 f1 n1 => by subst e; cases f1; exact ⟨kk, rfl, q H1 s1⟩⟩⟩
end
end Vs

namespace Vs
open PySem PySem.Spec PyProof.Rows L2

/-! ### built-in functions -/
def CbD (X : Cx) (r : List V → Hp → VK → Prop) (g : List D → R D) : Prop := ∀ (vs : List V) (ds : List D) (H : Hp) (Q : VK) (z : D), Rds X.K H vs ds → g ds = .ok z → (∀ v H' A, Same H H' → Fu X.K H' v z A → (∀ a ∈ A, H a = none) → Q v H') → r vs H Q
def NoEx1 (g : List D → R D) : Prop := ∀ ds c, g ds ≠ .ex c
def callB (g : List D → R D) (fs : Env → R (List D)) (ρ : Env) : R D := (fs ρ).bind g
section
variable {X : Cx} {W : WX} {e : Expr} {es : List Expr} {fs : Env → R (List D)} {x : Str} {p pos : Pos} {id T : String} {r : List V → Hp → VK → Prop} {g : List D → R D}
theorem tCB_of (k : CbD X r g) (n : NoEx1 g) {σ : L2.St} {H : Hp} {Q : VK} (h : tG X.K X.mg W (callB g fs) σ H Q) : tCB r (tFs X.K X.mg W fs) σ H Q := by
  obtain ⟨ρ, re, o⟩ := h
  refine ⟨ρ, re, (Out.bind o).mono fun ds _ q vs H1 s1 r1 => ?_⟩
  cases hz : g ds with
  | ok z =>
    rw [hz] at q
    exact k vs ds H1 Q z r1 hz fun v H2 A s2 f2 n2 => q v H2 A (s1.trans s2) f2 fun a m => s1.free (n2 a m)
  | ex c => exact absurd hz (n ds c)
  | st => rw [hz] at q; exact q.elim
theorem vg_callB (hc : CallR X (.builtin id) r) (k : CbD X r g) (n : NoEx1 g) (hg : Gl X x) (hm : X.mg x = none) (hv : bootBuiltins x = some (.builtin id)) (ha : VA X W (e :: es) fs) (hn : x ≠ "__name__" := by decide) (hdb : (x == ("__debug__" : Str)) = false := by decide)
    (he : starEach (e :: es) X.env = (false, eval e X.env) :: starEach es X.env := by rfl) (hpl : (backTo pos (starEach es X.env)).any (·.1) = false := by rfl) : VG X W (.Call (.Name x p) (e :: es) [] pos) (callB g fs) :=
  ⟨peW (pe_callB hc hg hm hv ha.pa hn hdb he hpl) fun σ H Q q => tCB_of k n q⟩
theorem vg_callTy (hc : CallR X (.type T) r) (k : CbD X r g) (n : NoEx1 g) (hg : Gl X x) (hm : X.mg x = none) (hv : bootBuiltins x = some (.type T)) (ha : VA X W (e :: es) fs) (hn : x ≠ "__name__" := by decide) (hdb : (x == ("__debug__" : Str)) = false := by decide)
    (he : starEach (e :: es) X.env = (false, eval e X.env) :: starEach es X.env := by rfl) (hpl : (backTo pos (starEach es X.env)).any (·.1) = false := by rfl) : VG X W (.Call (.Name x p) (e :: es) [] pos) (callB g fs) :=
  ⟨peW (pe_callTy hc hg hm hv ha.pa hn hdb he hpl) fun σ H Q q => tCB_of k n q⟩
end

def lenD : List D → R D
  | [.lst xs] => .ok (.int xs.length)
  | [.tup xs] => .ok (.int xs.length)
  | [.str z] => if z.length ≤ sizeLine then .ok (.int z.length) else .st
  | _ => .st
def absD : List D → R D
  | [.int i] => .ok (.int (if i < 0 then -i else i))
  | _ => .st
/-- ints of data -/
def intsO : List D → Option (List Int)
  | [] => some []
  | .int i :: r => (intsO r).map (i :: ·)
  | _ => none
def maxI (i j : Int) : Int := if j > i then j else i
def minI (i j : Int) : Int := if j < i then j else i
def maxL : List Int → Int
  | [] => 0
  | x :: r => r.foldl maxI x
def minL : List Int → Int
  | [] => 0
  | x :: r => r.foldl minI x
def maxD : List D → R D
  | [.int i, .int j] => .ok (.int (maxI i j))
  | [.lst xs] => match intsO xs with
    | some (n :: ns) => .ok (.int (maxL (n :: ns)))
    | _ => .st
  | _ => .st
def minD : List D → R D
  | [.int i, .int j] => .ok (.int (minI i j))
  | [.lst xs] => match intsO xs with
    | some (n :: ns) => .ok (.int (minL (n :: ns)))
    | _ => .st
  | _ => .st
def sumD : List D → R D
  | [.lst xs] => match intsO xs with
    | some ns => .ok (.int ns.sum)
    | none => .st
  | _ => .st
def bls : List D → Option (List Bool)
  | [] => some []
  | .bl i :: r => (bls r).map (i :: ·)
  | _ => none
def allD : List D → R D
  | [.lst xs] => match bls xs with
    | some bs => .ok (.bl (bs.all id))
    | none => .st
  | _ => .st
def anyD : List D → R D
  | [.lst xs] => match bls xs with
    | some bs => .ok (.bl (bs.any id))
    | none => .st
  | _ => .st
def intD : List D → R D
  | [.int i] => .ok (.int i)
  | [.bl k] => .ok (.int (if k then 1 else 0))
  | _ => .st
def strD : List D → R D
  | [.int i] => if i.natAbs.log2 < 1920 then .ok (.str (toString i)) else .st
  | _ => .st
def listD : List D → R D
  | [.lst xs] => if immDs xs = true then .ok (.lst xs) else .st
  | [.tup xs] => if immDs xs = true then .ok (.lst xs) else .st
  | _ => .st
def tupleD : List D → R D
  | [.lst xs] => if immDs xs = true then .ok (.tup xs) else .st
  | [.tup xs] => if immDs xs = true then .ok (.tup xs) else .st
  | _ => .st
def divmodD : List D → R D
  | [.int i, .int j] => if 0 < j ∧ j < 1073741824 then .ok (.tup [.int (i / j), .int (i % j)]) else .st
  | _ => .st
theorem maxI_foldl : ∀ (r : List Int) (x : Int), r.foldl maxI x ∈ x :: r ∧ ∀ y ∈ x :: r, y ≤ r.foldl maxI x
  | [], x => ⟨by simp, by simp⟩
  | z :: r, x => by
    have ih := maxI_foldl r (maxI x z)
    rw [List.foldl_cons]
    have hm : maxI x z = x ∨ maxI x z = z := by unfold maxI; split <;> simp
    have h1 : x ≤ maxI x z ∧ z ≤ maxI x z := by unfold maxI; split <;> constructor <;> omega
    refine ⟨?_, fun y hy => ?_⟩
    · rcases List.mem_cons.mp ih.1 with e | e
      · rw [e]; rcases hm with q | q <;> rw [q] <;> simp
      · simp [e]
    · have h2 := ih.2 (maxI x z) (by simp)
      rcases List.mem_cons.mp hy with e | e
      · subst e; omega
      · rcases List.mem_cons.mp e with e | e
        · subst e; omega
        · exact ih.2 y (by simp [e])
theorem minI_foldl : ∀ (r : List Int) (x : Int), r.foldl minI x ∈ x :: r ∧ ∀ y ∈ x :: r, r.foldl minI x ≤ y
  | [], x => ⟨by simp, by simp⟩
  | z :: r, x => by
    have ih := minI_foldl r (minI x z)
    rw [List.foldl_cons]
    have hm : minI x z = x ∨ minI x z = z := by unfold minI; split <;> simp
    have h1 : minI x z ≤ x ∧ minI x z ≤ z := by unfold minI; split <;> constructor <;> omega
    refine ⟨?_, fun y hy => ?_⟩
    · rcases List.mem_cons.mp ih.1 with e | e
      · rw [e]; rcases hm with q | q <;> rw [q] <;> simp
      · simp [e]
    · have h2 := ih.2 (minI x z) (by simp)
      rcases List.mem_cons.mp hy with e | e
      · subst e; omega
      · rcases List.mem_cons.mp e with e | e
        · subst e; omega
        · exact ih.2 y (by simp [e])
section
variable {K : PySem.W.Frag} {H : Hp}
theorem intsO_rd : ∀ {xs : List D} {ns : List Int} {vs : List V}, intsO xs = some ns → Rds K H vs xs → vs = ns.map V.int
  | [], ns, vs, h, r => by cases h; cases r; rfl
  | .int i :: xs, ns, vs, h, r => by
    rw [intsO] at h
    cases e : intsO xs with
    | none => rw [e] at h; cases h
    | some ms =>
      rw [e] at h
      cases h
      cases r with
      | cons h1 r1 => cases h1; rw [intsO_rd e r1]; rfl
  | .non :: _, _, _, h, _ => by cases h
  | .bl _ :: _, _, _, h, _ => by cases h
  | .str _ :: _, _, _, h, _ => by cases h
  | .lst _ :: _, _, _, h, _ => by cases h
  | .tup _ :: _, _, _, h, _ => by cases h
  | .dic _ _ _ :: _, _, _, h, _ => by cases h
  | .fn _ :: _, _, _, h, _ => by cases h
  | .exc _ _ :: _, _, _, h, _ => by cases h
  | .obj _ _ _ :: _, _, _, h, _ => by cases h
theorem bls_rd : ∀ {xs : List D} {ns : List Bool} {vs : List V}, bls xs = some ns → Rds K H vs xs → vs = ns.map V.bl
  | [], ns, vs, h, r => by cases h; cases r; rfl
  | .bl i :: xs, ns, vs, h, r => by
    rw [bls] at h
    cases e : bls xs with
    | none => rw [e] at h; cases h
    | some ms =>
      rw [e] at h
      cases h
      cases r with
      | cons h1 r1 => cases h1; rw [bls_rd e r1]; rfl
  | .non :: _, _, _, h, _ => by cases h
  | .int _ :: _, _, _, h, _ => by cases h
  | .str _ :: _, _, _, h, _ => by cases h
  | .lst _ :: _, _, _, h, _ => by cases h
  | .tup _ :: _, _, _, h, _ => by cases h
  | .dic _ _ _ :: _, _, _, h, _ => by cases h
  | .fn _ :: _, _, _, h, _ => by cases h
  | .exc _ _ :: _, _, _, h, _ => by cases h
  | .obj _ _ _ :: _, _, _, h, _ => by cases h
end
section
variable {X : Cx}
theorem rds1 {K : PySem.W.Frag} {H : Hp} {vs : List V} {d : D} (r : Rds K H vs [d]) : ∃ v, vs = [v] ∧ Rd K H v d := by
  cases r with
  | cons h r => cases r; exact ⟨_, rfl, h⟩
theorem rds2 {K : PySem.W.Frag} {H : Hp} {vs : List V} {d e : D} (r : Rds K H vs [d, e]) : ∃ v w, vs = [v, w] ∧ Rd K H v d ∧ Rd K H w e := by
  cases r with
  | cons h r => cases r with
    | cons h2 r => cases r; exact ⟨_, _, rfl, h, h2⟩
theorem cb_len : CbD X (fun xs H Q => ∃ x n, xs = [x] ∧ LenV X.K x H n ∧ Q (.int n) H) lenD := fun vs ds H Q z r h q => by
  unfold lenD at h
  split at h
  · obtain ⟨v, rfl, h1⟩ := rds1 r
    cases h
    cases h1 with
    | lst h1 r1 => exact ⟨_, _, rfl, .inl ⟨_, h1, rfl⟩, by rw [r1.length]; exact q _ H [] (Same.refl H) (.int _) (fun _ h => nomatch h)⟩
  · obtain ⟨v, rfl, h1⟩ := rds1 r
    cases h
    cases h1 with
    | tup h1 r1 => exact ⟨_, _, rfl, .inr ⟨_, h1.sq, rfl⟩, by rw [r1.length]; exact q _ H [] (Same.refl H) (.int _) (fun _ h => nomatch h)⟩
  · obtain ⟨v, rfl, h1⟩ := rds1 r
    split at h
    · rename_i c
      cases h
      cases h1
      exact ⟨_, _, rfl, ⟨c, rfl⟩, q _ H [] (Same.refl H) (.int _) (fun _ h => nomatch h)⟩
    · cases h
  · cases h
theorem nx_len : NoEx1 lenD := fun ds c h => by unfold lenD at h; split at h <;> first | cases h | (split at h <;> cases h)
theorem cb_abs : CbD X (fun xs H Q => ∃ i, xs = [.int i] ∧ Q (.int (if i < 0 then -i else i)) H) absD := fun vs ds H Q z r h q => by
  unfold absD at h
  split at h
  · obtain ⟨v, rfl, h1⟩ := rds1 r
    cases h
    cases h1
    exact ⟨_, rfl, q _ H [] (Same.refl H) (.int _) (fun _ h => nomatch h)⟩
  · cases h
theorem nx_abs : NoEx1 absD := fun ds c h => by unfold absD at h; split at h <;> cases h
def rMaxA (K : PySem.W.Frag) : List V → Hp → VK → Prop := fun xs H Q => (∃ i j, xs = [.int i, .int j] ∧ Q (.int (if j > i then j else i)) H) ∨ rMax K xs H Q
theorem call_maxA (hc : X.calm = true) : CallR X (.builtin "max") (rMaxA X.K) := (call_max2 hc).or (cr_max hc)
def rMinA (K : PySem.W.Frag) : List V → Hp → VK → Prop := fun xs H Q => (∃ i j, xs = [.int i, .int j] ∧ Q (.int (if j < i then j else i)) H) ∨ rMin K xs H Q
theorem call_minA (hc : X.calm = true) : CallR X (.builtin "min") (rMinA X.K) := (call_min2 hc).or (cr_min hc)
theorem cb_max : CbD X (rMaxA X.K) maxD := fun vs ds H Q z r h q => by
  unfold maxD at h
  split at h
  · obtain ⟨v, w, rfl, h1, h2⟩ := rds2 r
    cases h
    cases h1
    cases h2
    exact .inl ⟨_, _, rfl, q _ H [] (Same.refl H) (.int _) (fun _ h => nomatch h)⟩
  · obtain ⟨v, rfl, h1⟩ := rds1 r
    split at h
    · rename_i n ns e
      cases h
      cases h1 with
      | lst h1 r1 =>
        have ev := intsO_rd e r1
        subst ev
        refine .inr ⟨_, n :: ns, rfl, h1, by simp, fun m hm hy => ?_⟩
        obtain ⟨k1, k2⟩ := maxI_foldl ns n
        have em : m = maxL (n :: ns) := Int.le_antisymm (k2 m hm) (hy _ k1)
        rw [em]
        exact q _ H [] (Same.refl H) (.int _) (fun _ h => nomatch h)
    · cases h
  · cases h
theorem nx_max : NoEx1 maxD := fun ds c h => by unfold maxD at h; split at h <;> first | cases h | (split at h <;> cases h)
theorem cb_min : CbD X (rMinA X.K) minD := fun vs ds H Q z r h q => by
  unfold minD at h
  split at h
  · obtain ⟨v, w, rfl, h1, h2⟩ := rds2 r
    cases h
    cases h1
    cases h2
    exact .inl ⟨_, _, rfl, q _ H [] (Same.refl H) (.int _) (fun _ h => nomatch h)⟩
  · obtain ⟨v, rfl, h1⟩ := rds1 r
    split at h
    · rename_i n ns e
      cases h
      cases h1 with
      | lst h1 r1 =>
        have ev := intsO_rd e r1
        subst ev
        refine .inr ⟨_, n :: ns, rfl, h1, by simp, fun m hm hy => ?_⟩
        obtain ⟨k1, k2⟩ := minI_foldl ns n
        have em : m = minL (n :: ns) := Int.le_antisymm (hy _ k1) (k2 m hm)
        rw [em]
        exact q _ H [] (Same.refl H) (.int _) (fun _ h => nomatch h)
    · cases h
  · cases h
theorem nx_min : NoEx1 minD := fun ds c h => by unfold minD at h; split at h <;> first | cases h | (split at h <;> cases h)
theorem cb_sum : CbD X (rSum X.K) sumD := fun vs ds H Q z r h q => by
  unfold sumD at h
  split at h
  · obtain ⟨v, rfl, h1⟩ := rds1 r
    split at h
    · rename_i ns e
      cases h
      cases h1 with
      | lst h1 r1 =>
        have ev := intsO_rd e r1
        subst ev
        exact ⟨_, ns, rfl, h1, q _ H [] (Same.refl H) (.int _) (fun _ h => nomatch h)⟩
    · cases h
  · cases h
theorem nx_sum : NoEx1 sumD := fun ds c h => by unfold sumD at h; split at h <;> first | cases h | (split at h <;> cases h)
theorem cb_all : CbD X (rAll X.K) allD := fun vs ds H Q z r h q => by
  unfold allD at h
  split at h
  · obtain ⟨v, rfl, h1⟩ := rds1 r
    split at h
    · rename_i ns e
      cases h
      cases h1 with
      | lst h1 r1 =>
        have ev := bls_rd e r1
        subst ev
        exact ⟨_, ns, rfl, h1, q _ H [] (Same.refl H) (.bl _) (fun _ h => nomatch h)⟩
    · cases h
  · cases h
theorem nx_all : NoEx1 allD := fun ds c h => by unfold allD at h; split at h <;> first | cases h | (split at h <;> cases h)
theorem cb_any : CbD X (rAny X.K) anyD := fun vs ds H Q z r h q => by
  unfold anyD at h
  split at h
  · obtain ⟨v, rfl, h1⟩ := rds1 r
    split at h
    · rename_i ns e
      cases h
      cases h1 with
      | lst h1 r1 =>
        have ev := bls_rd e r1
        subst ev
        exact ⟨_, ns, rfl, h1, q _ H [] (Same.refl H) (.bl _) (fun _ h => nomatch h)⟩
    · cases h
  · cases h
theorem nx_any : NoEx1 anyD := fun ds c h => by unfold anyD at h; split at h <;> first | cases h | (split at h <;> cases h)
theorem cb_int : CbD X (fun xs H Q => (∃ i, xs = [.int i] ∧ Q (.int i) H) ∨ ∃ k, xs = [.bl k] ∧ Q (.int (if k then 1 else 0)) H) intD := fun vs ds H Q z r h q => by
  unfold intD at h
  split at h
  · obtain ⟨v, rfl, h1⟩ := rds1 r
    cases h
    cases h1
    exact .inl ⟨_, rfl, q _ H [] (Same.refl H) (.int _) (fun _ h => nomatch h)⟩
  · obtain ⟨v, rfl, h1⟩ := rds1 r
    cases h
    cases h1
    exact .inr ⟨_, rfl, q _ H [] (Same.refl H) (.int _) (fun _ h => nomatch h)⟩
  · cases h
theorem nx_int : NoEx1 intD := fun ds c h => by unfold intD at h; split at h <;> cases h
theorem cb_str : CbD X (fun xs H Q => ∃ i : Int, xs = [.int i] ∧ i.natAbs.log2 < 1920 ∧ Q (.str (toString i)) H) strD := fun vs ds H Q z r h q => by
  unfold strD at h
  split at h
  · obtain ⟨v, rfl, h1⟩ := rds1 r
    split at h
    · rename_i c
      cases h
      cases h1
      exact ⟨_, rfl, c, q _ H [] (Same.refl H) (.str _) (fun _ h => nomatch h)⟩
    · cases h
  · cases h
theorem nx_str : NoEx1 strD := fun ds c h => by unfold strD at h; split at h <;> first | cases h | (split at h <;> cases h)
theorem cb_list : CbD X (fun xs H Q => ∃ p ys, xs = [.ref p] ∧ (SqL X.K H p ys ∨ SqT X.K H p ys) ∧ ∀ l, H l = none → Q (.ref l) (upd H l (.lst ys))) listD := fun vs ds H Q z r h q => by
  unfold listD at h
  split at h
  · obtain ⟨v, rfl, h1⟩ := rds1 r
    split at h
    · rename_i c
      cases h
      cases h1 with
      | lst h1 r1 => exact ⟨_, _, rfl, .inl h1, fun l hl => q _ _ [l] (new_same hl) (fu_new_lst hl r1 c) fun a ha => by rw [List.mem_singleton.mp ha]; exact hl⟩
    · cases h
  · obtain ⟨v, rfl, h1⟩ := rds1 r
    split at h
    · rename_i c
      cases h
      cases h1 with
      | tup h1 r1 => exact ⟨_, _, rfl, .inr h1.sq, fun l hl => q _ _ [l] (new_same hl) (fu_new_lst hl r1 c) fun a ha => by rw [List.mem_singleton.mp ha]; exact hl⟩
    · cases h
  · cases h
theorem nx_list : NoEx1 listD := fun ds c h => by unfold listD at h; split at h <;> first | cases h | (split at h <;> cases h)
theorem cb_tuple : CbD X (fun xs H Q => ∃ p ys, xs = [.ref p] ∧ ((SqL X.K H p ys ∧ ∀ l, H l = none → Q (.ref l) (upd H l (.tup ys))) ∨ (SqT X.K H p ys ∧ Q (.ref p) H))) tupleD := fun vs ds H Q z r h q => by
  unfold tupleD at h
  split at h
  · obtain ⟨v, rfl, h1⟩ := rds1 r
    split at h
    · rename_i c
      cases h
      cases h1 with
      | lst h1 r1 => exact ⟨_, _, rfl, .inl ⟨h1, fun l hl => q _ _ [] (new_same hl) (fu_new_tup hl r1 c) (fun _ h => nomatch h)⟩⟩
    · cases h
  · obtain ⟨v, rfl, h1⟩ := rds1 r
    split at h
    · rename_i c
      cases h
      cases h1 with
      | tup h1 r1 => exact ⟨_, _, rfl, .inr ⟨h1.sq, q _ H [] (Same.refl H) (.tup h1 (r1.fu c)) (fun _ h => nomatch h)⟩⟩
    · cases h
  · cases h
theorem nx_tuple : NoEx1 tupleD := fun ds c h => by unfold tupleD at h; split at h <;> first | cases h | (split at h <;> cases h)
theorem cb_divmod : CbD X (fun xs H Q => ∃ i j, xs = [.int i, .int j] ∧ CDiv i j ∧ ∀ p, H p = none → Q (.ref p) (upd H p (.tup [.int (i / j), .int (i % j)]))) divmodD := fun vs ds H Q z r h q => by
  unfold divmodD at h
  split at h
  · obtain ⟨v, w, rfl, h1, h2⟩ := rds2 r
    split at h
    · rename_i c
      cases h
      cases h1
      cases h2
      exact ⟨_, _, rfl, c, fun p hp => q _ _ [] (new_same hp) (fu_new_tup hp (.cons (.int _) (.cons (.int _) .nil)) rfl) (fun _ h => nomatch h)⟩
    · cases h
  · cases h
theorem nx_divmod : NoEx1 divmodD := fun ds c h => by unfold divmodD at h; split at h <;> first | cases h | (split at h <;> cases h)
end

/-! ### isinstance(x, T), T a built-in class -/
def clsD : D → String
  | .non => "NoneType"
  | .bl _ => "bool"
  | .int _ => "int"
  | .str _ => "str"
  | .lst _ => "list"
  | .fz _ => "list"
  | .tup _ => "tuple"
  | .dic _ _ _ => "dict"
  | .fn _ => ""
  | .exc _ _ => ""
  | .obj _ _ _ => ""
def isT (T : String) (d : D) : R D := match d with
  | .fn _ => .st
  | .exc _ _ => .st
  | .obj _ _ _ => .st
  | d => .ok (.bl (T == clsD d || (T == "int" && clsD d == "bool")))
def isiE (T : String) (f : Env → R D) (ρ : Env) : R D := (f ρ).bind (isT T)
def kinds5 (T : String) : Prop := ∀ c ∈ ["NoneType", "bool", "int", "str", "list", "tuple", "dict"], kitB c T = some (T == c || (T == "int" && c == "bool"))
theorem Rd.tyx {K : PySem.W.Frag} {H : Hp} {v : V} {d : D} (r : Rd K H v d) : (isT "int" d = .st ∧ ∀ T, isT T d = .st) ∨ TyX K H v (.type (clsD d)) := by
  cases r with
  | non => exact .inr (.base .non)
  | bl b => exact .inr (.base (.bl b))
  | int i => exact .inr (.base (.int i))
  | str x => exact .inr (.base (.str x))
  | fn n => exact .inl ⟨rfl, fun _ => rfl⟩
  | exc c a => exact .inl ⟨rfl, fun _ => rfl⟩
  | obj _ _ _ _ _ => exact .inl ⟨rfl, fun _ => rfl⟩
  | lst h _ =>
    rcases h with (h | ⟨o, h⟩) | ⟨o, its, n, h1, h2, _⟩
    · exact .inr (.base (.lst h))
    · exact .inr (.base (.frz h))
    · exact .inr (.kList h1 h2)
  | fz h _ => exact .inr (.base (.frz h))
  | tup h _ => exact h.elim (fun h => .inr (.base (.tup h))) fun ⟨_, _, _, h1, h2, _⟩ => .inr (.kTuple h1 h2)
  | dk h _ _ => exact .inr (.base (.dK h))
  | dt h _ _ => exact .inr (.base (.dT h))
section
variable {X : Cx} {W : WX} {a : Expr} {f : Env → R D} {p p2 pos : Pos} {T : String} {x : Str}
theorem vg_isi (k5 : kinds5 T) (hg : Gl X "isinstance") (hm : X.mg "isinstance" = none) (hT : PE X (.Name x p2) (tC (.ty T))) (ha : VE X W a f)
    (he : starEach [a, .Name x p2] X.env = (false, eval a X.env) :: starEach [.Name x p2] X.env := by rfl) (he2 : starEach [.Name x p2] X.env = [(false, eval (.Name x p2) X.env)] := by rfl) (hpl : (backTo pos (starEach [.Name x p2] X.env)).any (·.1) = false := by rfl) : VG X W (.Call (.Name "isinstance" p) [a, .Name x p2] [] pos) (isiE T f) :=
  ⟨peW (pe_callB call_isi hg hm boot_isinstance (pa_cons ha.pe (pa_cons hT pa_nil he2) he) (by decide) (by decide) he hpl) fun σ H Q ⟨ρ, re, o⟩ => ⟨ρ, re, (Out.bind o).mono fun d _ q v H1 s1 r1 => by
    show rIsi X.K [v, .ty T] H1 Q
    rcases r1.tyx with ⟨_, e⟩ | t
    · rw [e] at q
      exact q.elim
    · have nf : isT T d ≠ .st := fun z => by rw [z] at q; exact q.elim
      have ek : kitB (clsD d) T = some (T == clsD d || (T == "int" && clsD d == "bool")) := by
        refine k5 _ ?_
        cases d with
        | fn a => exact absurd rfl nf
        | exc c a => exact absurd rfl nf
        | obj c a b => exact absurd rfl nf
        | _ => simp [clsD]
      refine ⟨v, .ty T, _, _, _, rfl, .ty T, t, kit_ty ek, ?_⟩
      have ei : isT T d = .ok (.bl (T == clsD d || (T == "int" && clsD d == "bool"))) := by
        cases d with
        | fn a => exact absurd rfl nf
        | exc c a => exact absurd rfl nf
        | obj c a b => exact absurd rfl nf
        | _ => rfl
      rw [ei] at q
      exact q _ H1 [] s1 (.bl _) (fun _ h => nomatch h)⟩⟩
end
theorem k5_int : kinds5 "int" := by unfold kinds5; decide +kernel
theorem k5_bool : kinds5 "bool" := by unfold kinds5; decide +kernel
theorem k5_str : kinds5 "str" := by unfold kinds5; decide +kernel
theorem k5_list : kinds5 "list" := by unfold kinds5; decide +kernel
theorem k5_tuple : kinds5 "tuple" := by unfold kinds5; decide +kernel

/-! ### calls of the text's own defs -/
/-- a def that is a function of data: what it hands back is new -/
def spF (K : PySem.W.Frag) (mg : Str → Option Value) (n : Nat) (m : List D → R D) : Sp := fun vs H Q E => vs.length = n ∧ ∃ ds, Rds K H vs ds ∧ match m ds with
  | .ok d => ∀ v H' A, Same H H' → Fu K H' v d A → (∀ a ∈ A, H a = none) → Q v H'
  | .ex c => ∃ C, mg c = some (.ref C) ∧ ∀ H', Same H H' → E (.ref C) none H'
  | .st => False
section
variable {X : Cx} {W : WX} {k n : Nat} {f : Addr} {fd : FuncData} {ps : List Str} {m : List D → R D} {x : Str} {p pos : Pos} {e : Expr} {es : List Expr} {fs : Env → R (List D)}
def callF (m : List D → R D) (fs : Env → R (List D)) (ρ : Env) : R D := (fs ρ).bind m
theorem vg_call (F : FnOk X.prog X.w X.K X.mg X.base (L2.CX X.prog X.w) k f fd ps (spF X.K X.mg n m)) (hr : Room k X.A) (tk : Takes X W) (hg : Gl X x) (hm : X.mg x = some (.ref f)) (hk : PySem.W.keepIn X.K (.ref f) = true) (hb : Binds X.K fd ps [])
    (ha : VA X W (e :: es) fs) (hl : LenA fs n) (hdb : (x == ("__debug__" : Str)) = false := by decide) (he : starEach (e :: es) X.env = (false, eval e X.env) :: starEach es X.env := by rfl) (hpl : (backTo pos (starEach es X.env)).any (·.1) = false := by rfl) :
    VG X W (.Call (.Name x p) (e :: es) [] pos) (callF m fs) := ⟨peW (pe_callS F hr hg hm hk hb (fun σ => passAt tk σ) ha.pa hdb he hpl) fun σ H Q ⟨ρ, re, o⟩ => ⟨ρ, re, (Out.bind o).mono fun ds hd q vs H1 s1 r1 => by
  refine ⟨r1.length.trans (hl ρ ds hd), ds, r1, ?_⟩
  cases hz : m ds with
  | ok d => rw [hz] at q; exact fun v H' A s2 f2 n2 => q v H' A (s1.trans s2) f2 fun a z => s1.free (n2 a z)
  | ex c => rw [hz] at q; obtain ⟨C, h1, h2⟩ := q; exact ⟨C, h1, fun H' s2 => h2 H' (s1.trans s2)⟩
  | st => rw [hz] at q; exact q.elim⟩⟩
end
end Vs

namespace Vs
open PySem PySem.Spec PyProof.Rows L2

/-! ### what never changes -/
section
variable {K : PySem.W.Frag} {H H' S : Hp}
mutual
theorem Fu.soft : ∀ {v : V} {d : D} {A : List Addr}, Fu K H v d A → ∀ a ∈ A, ∃ o, H a = some o ∧ ¬ Stt o
  | _, _, _, .non, _, h => nomatch h
  | _, _, _, .bl b, _, h => nomatch h
  | _, _, _, .int i, _, h => nomatch h
  | _, _, _, .str x, _, h => nomatch h
  | _, _, _, .fn n, _, h => nomatch h
  | _, _, _, .exc c a, _, h => nomatch h
  | _, _, _, .lst h r n, a, m => by
    rcases List.mem_cons.mp m with e | m
    · exact ⟨.lst _, e ▸ h, fun z => (show False from z)⟩
    · exact Fus.soft r a m
  | _, _, _, .fz h r, a, m => nomatch m
  | _, _, _, .tup h r, a, m => Fus.soft r a m
  | _, _, _, .dk h q r n, a, m => by
    rcases List.mem_cons.mp m with e | m
    · exact ⟨.dK _, e ▸ h, fun z => (show False from z)⟩
    · exact Fus.soft r a m
  | _, _, _, .dt h q r n, a, m => by
    rcases List.mem_cons.mp m with e | m
    · exact ⟨.dT _, e ▸ h, fun z => (show False from z)⟩
    · exact Fus.soft r a m
  | _, _, _, .obj h h2 nk q r n n2 n3, a, m => by
    rcases List.mem_cons.mp m with e | m
    · exact ⟨.ins _ _ _, e ▸ h, fun z => (show False from z)⟩
    · rcases List.mem_cons.mp m with e | m
      · exact ⟨.own _, e ▸ h2, fun z => (show False from z)⟩
      · exact Fus.soft r a m
theorem Fus.soft : ∀ {vs : List V} {ds : List D} {A : List Addr}, Fus K H vs ds A → ∀ a ∈ A, ∃ o, H a = some o ∧ ¬ Stt o
  | _, _, _, .nil, _, h => nomatch h
  | _, _, _, .cons h r _, a, m => by
    rcases List.mem_append.mp m with m | m
    · exact Fu.soft h a m
    · exact Fus.soft r a m
end
open Classical in
/-- S, and what of H never changes, and what stands at A -/
noncomputable def ext (S H : Hp) (A : List Addr) : Hp := fun a => match S a with
  | some o => some o
  | none => match H a with
    | some o => if Stt o ∨ a ∈ A then some o else none
    | none => none
theorem ext_s (A : List Addr) : Same S (ext S H A) := fun b o e => by unfold ext; rw [e]
theorem ext_h (s : Same S H) (A : List Addr) : Same (ext S H A) H := fun b o e => by
  unfold ext at e
  cases q : S b with
  | some u => rw [q] at e; cases e; exact s b _ q
  | none =>
    rw [q] at e
    cases q' : H b with
    | some u =>
      rw [q'] at e
      simp only at e
      split at e
      · exact e
      · cases e
    | none => rw [q'] at e; cases e
theorem ext_none {A : List Addr} {a : Addr} (h : S a = none) (n : a ∉ A) (t : ∀ o, H a = some o → ¬ Stt o) : ext S H A a = none := by
  unfold ext
  rw [h]
  cases q : H a with
  | some o =>
    simp only
    rw [if_neg fun z => z.elim (t o q) n]
  | none => rfl
theorem ext_stt (s : Same S H) {A : List Addr} {a : Addr} {o : HO} (h : H a = some o) (t : Stt o) : ext S H A a = some o := by
  unfold ext
  cases q : S a with
  | some u => rw [s a u q] at h; exact h
  | none =>
    rw [h]
    simp only
    rw [if_pos (.inl t)]
theorem ext_at (s : Same S H) {A : List Addr} {a : Addr} {o : HO} (h : H a = some o) (t : a ∈ A) : ext S H A a = some o := by
  unfold ext
  cases q : S a with
  | some u => rw [s a u q] at h; exact h
  | none =>
    rw [h]
    simp only
    rw [if_pos (.inr t)]
theorem ext_seqT (s : Same S H) {A : List Addr} {a : Addr} {xs : List V} (h : TpT K H a xs) : TpT K (ext S H A) a xs := h.imp (fun q => ext_stt s q trivial) id
mutual
theorem Fu.ext (s : Same S H) {B : List Addr} : ∀ {v : V} {d : D} {A : List Addr}, Fu K H v d A → (∀ a ∈ A, a ∈ B) → Rd K (ext S H B) v d
  | _, _, _, .non, _ => .non
  | _, _, _, .bl b, _ => .bl b
  | _, _, _, .int i, _ => .int i
  | _, _, _, .str x, _ => .str x
  | _, _, _, .fn n, _ => .fn n
  | _, _, _, .exc c a, _ => .exc c a
  | _, _, _, .lst h r n, k => .lst (SqL.of (ext_at s h (k _ List.mem_cons_self))) (Fus.ext s r fun a m => k a (List.mem_cons_of_mem _ m))
  | _, _, _, .fz h r, k => .fz (ext_stt s h trivial) (Fus.ext s r fun a m => nomatch m)
  | _, _, _, .tup h r, k => .tup (ext_seqT s h) (Fus.ext s r k)
  | _, _, _, .dk h q r n, k => .dk (ext_at s h (k _ List.mem_cons_self)) q (Fus.ext s r fun a m => k a (List.mem_cons_of_mem _ m))
  | _, _, _, .dt h q r n, k => .dt (ext_at s h (k _ List.mem_cons_self)) q (Fus.ext s r fun a m => k a (List.mem_cons_of_mem _ m))
  | _, _, _, .obj h h2 nk q r n n2 n3, k => .obj (ext_at s h (k _ List.mem_cons_self)) (ext_at s h2 (k _ (List.mem_cons_of_mem _ List.mem_cons_self))) nk q (Fus.ext s r fun a m => k a (List.mem_cons_of_mem _ (List.mem_cons_of_mem _ m)))
theorem Fus.ext (s : Same S H) {B : List Addr} : ∀ {vs : List V} {ds : List D} {A : List Addr}, Fus K H vs ds A → (∀ a ∈ A, a ∈ B) → Rds K (ext S H B) vs ds
  | _, _, _, .nil, _ => .nil
  | _, _, _, .cons h r _, k => .cons (Fu.ext s h fun a m => k a (List.mem_append_left _ m)) (Fus.ext s r fun a m => k a (List.mem_append_right _ m))
end
end

/-! ### the state between two statements -/
/-- S: what stays; F i: the lists of slot i, its own (i in own) -/
structure Stx (own : List Nat) (K : PySem.W.Frag) (S : Hp) (F : Nat → List Addr) (ρ : Env) (σ : L2.St) (H : Hp) : Prop where
  len : ρ.length = σ.length
  sub : Same S H
  cl : ∀ a o, H a = some o → Stt o → S a = some o
  val : ∀ (i : Nat) (d : D), ρ[i]? = some (some d) → ∃ v, σ[i]? = some (some v) ∧ (i ∈ own → Fu K H v d (F i)) ∧ (i ∉ own → Rd K S v d)
  out : ∀ i ∈ own, ∀ a ∈ F i, S a = none ∧ ∃ o, H a = some o ∧ ¬ Stt o
  dis : ∀ i ∈ own, ∀ j ∈ own, i ≠ j → ∀ a ∈ F i, a ∉ F j
def Sta (own : List Nat) (B : Hp) (K : PySem.W.Frag) (ρ : Env) (σ : L2.St) (H : Hp) : Prop := ∃ S F, Same B S ∧ Stx own K S F ρ σ H
section
variable {K : PySem.W.Frag} {H H' S B B' : Hp} {own own' : List Nat} {F : Nat → List Addr} {ρ : Env} {σ : L2.St}
theorem Stx.env (h : Stx own K S F ρ σ H) : REnv K ρ σ H := ⟨h.len, fun i d q => by
  obtain ⟨v, h1, h2, h3⟩ := h.val i d q
  by_cases m : i ∈ own
  · exact ⟨v, h1, (h2 m).rd⟩
  · exact ⟨v, h1, (h3 m).mono h.sub⟩⟩
theorem Sta.env (h : Sta own B K ρ σ H) : REnv K ρ σ H := let ⟨_, _, _, x⟩ := h; x.env
theorem Sta.base (h : Sta own B K ρ σ H) : Same B H := let ⟨_, _, b, x⟩ := h; b.trans x.sub
theorem Sta.down (h : Sta own B' K ρ σ H) (s : Same B B') : Sta own B K ρ σ H := let ⟨S, F, b, x⟩ := h; ⟨S, F, s.trans b, x⟩
/-- the heap has grown -/
theorem Stx.grow (h : Stx own K S F ρ σ H) (s : Same H H') {A : List Addr} (hA : ∀ a ∈ A, H a = none) : Stx own K (ext S H' A) F ρ σ H' := by
  have sS : Same S H' := h.sub.trans s
  refine ⟨h.len, ext_h sS A, fun a o e t => ext_stt sS e t, fun i d q => ?_, fun i m a ha => ?_, h.dis⟩
  · obtain ⟨v, h1, h2, h3⟩ := h.val i d q
    exact ⟨v, h1, fun m => (h2 m).same s, fun m => (h3 m).mono (ext_s A)⟩
  · obtain ⟨h1, o, h2, h3⟩ := h.out i m a ha
    refine ⟨ext_none h1 (fun z => ?_) (fun o' e => ?_), o, s a o h2, h3⟩
    · rw [hA a z] at h2; cases h2
    · rw [s a o h2] at e; cases e; exact h3
theorem Sta.grow (h : Sta own B K ρ σ H) (s : Same H H') : Sta own B K ρ σ H' :=
  let ⟨_, _, b, x⟩ := h
  ⟨_, _, b.trans (ext_s []), x.grow s (fun _ z => nomatch z)⟩
theorem get_set {α : Type} {l : List α} {i j : Nat} {x y : α} (h : (l.set i x)[j]? = some y) : (j = i ∧ x = y ∧ i < l.length) ∨ (j ≠ i ∧ l[j]? = some y) := by
  rw [List.getElem?_set] at h
  by_cases e : i = j
  · subst e
    rw [if_pos rfl] at h
    split at h
    · rename_i hl
      exact .inl ⟨rfl, Option.some.inj h, hl⟩
    · cases h
  · rw [if_neg e] at h
    exact .inr ⟨Ne.symm e, h⟩
/-- a slot takes a new thing, its own -/
theorem Stx.put (h : Stx own K S F ρ σ H) {v : V} {d : D} {A : List Addr} (s : Same H H') (f : Fu K H' v d A) (hA : ∀ a ∈ A, H a = none) (i : Nat) :
    Stx (i :: own) K (ext S H' []) (fun j => if j = i then A else F j) (ρ.set i (some d)) (σ.set i (some v)) H' := by
  have g := h.grow s (A := []) (fun _ z => nomatch z)
  have sS : Same S H' := h.sub.trans s
  refine ⟨by rw [List.length_set, List.length_set]; exact h.len, g.sub, g.cl, fun j e q => ?_, fun j m a ha => ?_, fun j mj k mk ne a ha => ?_⟩
  · rcases get_set q with ⟨rfl, e1, hl⟩ | ⟨ne, q⟩
    · cases e1
      refine ⟨v, ?_, fun _ => ?_, fun m => absurd List.mem_cons_self m⟩
      · rw [List.getElem?_set_self (by rw [← h.len]; exact hl)]
      · rw [if_pos rfl]; exact f
    · obtain ⟨u, h1, h2, h3⟩ := g.val j e q
      refine ⟨u, by rw [List.getElem?_set_ne (Ne.symm ne)]; exact h1, fun m => ?_, fun m => h3 fun z => m (List.mem_cons_of_mem _ z)⟩
      rw [if_neg ne]
      exact h2 ((List.mem_cons.mp m).resolve_left ne)
  · by_cases e : j = i
    · rw [if_pos e] at ha
      obtain ⟨o, h1, h2⟩ := f.soft a ha
      refine ⟨ext_none (h.sub.free (hA a ha)) (fun z => nomatch z) (fun o' e' => ?_), o, h1, h2⟩
      rw [h1] at e'; cases e'; exact h2
    · rw [if_neg e] at ha
      exact g.out j ((List.mem_cons.mp m).resolve_left e) a ha
  · intro hk
    by_cases ej : j = i
    · rw [if_pos ej] at ha
      have ek : k ≠ i := fun z => ne (ej.trans z.symm)
      rw [if_neg ek] at hk
      obtain ⟨_, o, h1, _⟩ := h.out k ((List.mem_cons.mp mk).resolve_left ek) a hk
      rw [hA a ha] at h1; cases h1
    · rw [if_neg ej] at ha
      by_cases ek : k = i
      · rw [if_pos ek] at hk
        obtain ⟨_, o, h1, _⟩ := h.out j ((List.mem_cons.mp mj).resolve_left ej) a ha
        rw [hA a hk] at h1; cases h1
      · rw [if_neg ek] at hk
        exact h.dis j ((List.mem_cons.mp mj).resolve_left ej) k ((List.mem_cons.mp mk).resolve_left ek) ne a ha hk
/-- a slot that owns nothing takes a thing that stays -/
theorem Stx.lay (h : Stx own K S F ρ σ H) {v : V} {d : D} {i : Nat} (hi : i ∉ own) (r : Rd K S v d) : Stx own K S F (ρ.set i (some d)) (σ.set i (some v)) H := by
  refine ⟨by rw [List.length_set, List.length_set]; exact h.len, h.sub, h.cl, fun j e q => ?_, h.out, h.dis⟩
  rcases get_set q with ⟨rfl, e1, hl⟩ | ⟨ne, q⟩
  · cases e1
    exact ⟨v, by rw [List.getElem?_set_self (by rw [← h.len]; exact hl)], fun m => absurd m hi, fun _ => r⟩
  · obtain ⟨u, h1, h2⟩ := h.val j e q
    exact ⟨u, by rw [List.getElem?_set_ne (Ne.symm ne)]; exact h1, h2⟩
/-- fewer slots own: what they had stays from now on -/
theorem Stx.weak (h : Stx own K S F ρ σ H) (w : ∀ i ∈ own', i ∈ own) : Sta own' S K ρ σ H := by
  refine ⟨ext S H ((own.filter (fun i => decide (i ∉ own'))).flatMap F), F, ext_s _, h.len, ext_h h.sub _, fun a o e t => ext_stt h.sub e t, fun i d q => ?_, fun i m a ha => ?_, fun i mi j mj => h.dis i (w i mi) j (w j mj)⟩
  · obtain ⟨v, h1, h2, h3⟩ := h.val i d q
    refine ⟨v, h1, fun m => h2 (w i m), fun m => ?_⟩
    by_cases mo : i ∈ own
    · exact (h2 mo).ext h.sub fun a ha => List.mem_flatMap.mpr ⟨i, List.mem_filter.mpr ⟨mo, by simpa using m⟩, ha⟩
    · exact (h3 mo).mono (ext_s _)
  · obtain ⟨h1, o, h2, h3⟩ := h.out i (w i m) a ha
    refine ⟨ext_none h1 (fun z => ?_) (fun o' e => ?_), o, h2, h3⟩
    · obtain ⟨j, hj, hz⟩ := List.mem_flatMap.mp z
      obtain ⟨hj1, hj2⟩ := List.mem_filter.mp hj
      have hj2 : j ∉ own' := by simpa using hj2
      exact h.dis i (w i m) j hj1 (fun e => hj2 (e ▸ m)) a ha hz
    · rw [h2] at e; cases e; exact h3
theorem Sta.weak (h : Sta own B K ρ σ H) (w : ∀ i ∈ own', i ∈ own) : Sta own' B K ρ σ H :=
  let ⟨_, _, b, x⟩ := h
  (x.weak w).down b
end

/-! ### statements -/
inductive Sr where
  | st | nx (ρ : Env) | rt (d : D) | bk (ρ : Env) | ct (ρ : Env) | ex (c : Str) (ρ : Env) | rb (d : D) (ρ : Env)
/-- what is asked of a statement's ends: the slots that own at break and continue, at a return of what was lent, where something is raised; the slots that keep their thing -/
structure Ol where
  l : List Nat := []
  r : List Nat := []
  e : List Nat := []
  P : Nat → Option V := fun _ => none
abbrev nol : Ol := {}
def Pin (P : Nat → Option V) (σ : L2.St) : Prop := ∀ i v, P i = some v → σ[i]? = some (some v)
theorem Pin.set {P : Nat → Option V} {σ : L2.St} {i : Nat} {x : Option V} (h : Pin P σ) (hi : P i = none) : Pin P (σ.set i x) := fun j v e => by
  rw [List.getElem?_set_ne fun z => by rw [← z, hi] at e; cases e]
  exact h j v e
theorem Pin.keep {P : Nat → Option V} {σ σ' : L2.St} (h : Pin P σ) (k : ∀ j, P j ≠ none → σ'[j]? = σ[j]?) : Pin P σ' := fun j v e => by
  rw [k j fun z => by rw [z] at e; cases e]
  exact h j v e
theorem Pin.nol {σ : L2.St} : Pin nol.P σ := fun _ _ e => nomatch e
/-- the state, and a new value beside it -/
def StaV (own : List Nat) (B : Hp) (K : PySem.W.Frag) (ρ : Env) (σ : L2.St) (H : Hp) (v : V) (d : D) : Prop := ∃ S F A, Same B S ∧ Stx own K S F ρ σ H ∧ Fu K H v d A ∧ (∀ a ∈ A, S a = none) ∧ ∀ j ∈ own, ∀ a ∈ A, a ∉ F j
theorem StaV.down {own : List Nat} {B B' : Hp} {K : PySem.W.Frag} {ρ : Env} {σ : L2.St} {H : Hp} {v : V} {d : D} (h : StaV own B' K ρ σ H v d) (s : Same B B') : StaV own B K ρ σ H v d := let ⟨S, F, A, b, x⟩ := h; ⟨S, F, A, s.trans b, x⟩
/-- a new value beside a state -/
theorem Sta.staV {own : List Nat} {B : Hp} {K : PySem.W.Frag} {ρ : Env} {σ : L2.St} {H H' : Hp} {v : V} {d : D} {A : List Addr} (h : Sta own B K ρ σ H) (s : Same H H') (f : Fu K H' v d A) (n : ∀ a ∈ A, H a = none) : StaV own B K ρ σ H' v d := by
  obtain ⟨S, F, b, y⟩ := h
  refine ⟨_, F, A, b.trans (ext_s []), y.grow s (A := []) (fun _ z => nomatch z), f, fun a ha => ?_, fun j m a ha z => ?_⟩
  · obtain ⟨o, h1, h2⟩ := f.soft a ha
    exact ext_none (y.sub.free (n a ha)) (fun z => nomatch z) (fun o' e => by rw [h1] at e; cases e; exact h2)
  · obtain ⟨_, o, e, _⟩ := y.out j m a z
    rw [n a ha] at e; cases e
def bindS {α : Type} (r : R α) (ρ : Env) (k : α → Sr) : Sr := match r with
  | .ok a => k a
  | .ex c => .ex c ρ
  | .st => .st
@[simp] theorem bindS_ok {α : Type} (a : α) (ρ : Env) (k : α → Sr) : bindS (.ok a) ρ k = k a := rfl
@[simp] theorem bindS_ex {α : Type} (c : Str) (ρ : Env) (k : α → Sr) : bindS (.ex c) ρ k = .ex c ρ := rfl
@[simp] theorem bindS_st {α : Type} (ρ : Env) (k : α → Sr) : bindS (.st) ρ k = .st := rfl
def SEnd (K : PySem.W.Frag) (mg : Str → Option Value) (W : WX) (own : List Nat) (ol : Ol) (B : Hp) (D : Ends) : Sr → Prop
  | .st => False
  | .nx ρ => ∀ σ H, Sta own B K ρ σ H → Pin ol.P σ → D.nx σ H
  | .rt d => ∀ v H A, Same B H → Fu K H v d A → (∀ a ∈ A, B a = none) → D.rt v H
  | .rb d ρ => ∀ v σ H, StaV ol.r B K ρ σ H v d → Pin ol.P σ → D.rt v H
  | .bk ρ => ∀ σ H, Sta ol.l B K ρ σ H → Pin ol.P σ → D.bk σ H
  | .ct ρ => ∀ σ H, Sta ol.l B K ρ σ H → Pin ol.P σ → D.ct σ H
  | .ex c ρ => ∃ C, mg c = some (.ref C) ∧ ∀ σ H, Sta ol.e B K ρ σ H → Pin ol.P σ → W (.ref C) none σ H
def tS (K : PySem.W.Frag) (mg : Str → Option Value) (W : WX) (own own' : List Nat) (ol : Ol) (b : Env → Sr) : TS := fun D σ H => ∃ B ρ, Sta own B K ρ σ H ∧ Pin ol.P σ ∧ SEnd K mg W own' ol B D (b ρ)
structure VS (X : Cx) (W : WX) (own own' : List Nat) (ol : Ol) (st : Stmt) (b : Env → Sr) : Prop where
  ps : PS X st (tS X.K X.mg W own own' ol b)
structure VSs (X : Cx) (W : WX) (own own' : List Nat) (ol : Ol) (st : List Stmt) (b : Env → Sr) : Prop where
  ps : PSs X st (tS X.K X.mg W own own' ol b)
section
variable {K : PySem.W.Frag} {mg : Str → Option Value} {W : WX} {own own' own'' : List Nat} {ol : Ol} {B B' : Hp} {D E : Ends} {r : Sr}
theorem SEnd.up (h : SEnd K mg W own ol B D r) (s : Same B B') : SEnd K mg W own ol B' D r := by
  cases r with
  | st => exact h
  | nx ρ => exact fun σ H x => h σ H (x.down s)
  | rt d => exact fun v H A b f n => h v H A (s.trans b) f fun a m => s.free (n a m)
  | rb d ρ => exact fun v σ H x => h v σ H (x.down s)
  | bk ρ => exact fun σ H x => h σ H (x.down s)
  | ct ρ => exact fun σ H x => h σ H (x.down s)
  | ex c ρ => obtain ⟨C, h1, h2⟩ := h; exact ⟨C, h1, fun σ H x => h2 σ H (x.down s)⟩
/-- from an expression's outcome to a statement's -/
theorem SEnd.out {α : Type} {x : R α} {ρ : Env} {k : α → Sr} {σ : L2.St} {H : Hp} (st : Sta own' B K ρ σ H) (pn : Pin ol.P σ) (we : ∀ i ∈ ol.e, i ∈ own') (h : SEnd K mg W own ol B D (bindS x ρ k)) : Out mg W σ H x fun a => SEnd K mg W own ol B D (k a) := by
  cases x with
  | st => exact h
  | ok a => exact h
  | ex c => obtain ⟨C, h1, h2⟩ := h; exact ⟨C, h1, fun H' s => h2 σ H' ((st.grow s).weak we) pn⟩
theorem SEnd.weak (h : SEnd K mg W own' ol B D r) (w : ∀ i ∈ own', i ∈ own) : SEnd K mg W own ol B D r := by
  cases r with
  | nx ρ => exact fun σ H x => h σ H (x.weak w)
  | st => exact h
  | rt d => exact h
  | rb d ρ => exact h
  | bk ρ => exact h
  | ct ρ => exact h
  | ex c ρ => exact h
end
def seqS (a b : Env → Sr) (ρ : Env) : Sr := match a ρ with
  | .nx ρ' => b ρ'
  | r => r
def nilS (ρ : Env) : Sr := .nx ρ
def asgS (i : Nat) (f : Env → R D) (ρ : Env) : Sr := bindS (f ρ) ρ fun d => .nx (ρ.set i (some d))
def retS (f : Env → R D) (ρ : Env) : Sr := bindS (f ρ) ρ .rt
def retNS (_ : Env) : Sr := .rt .non
def retV (i : Nat) (ρ : Env) : Sr := match ρ[i]? with
  | some (some d) => .rt d
  | _ => .st
def ifS (t : Env → R Bool) (a b : Env → Sr) (ρ : Env) : Sr := bindS (t ρ) ρ fun c => if c = true then a ρ else b ρ
def exprS (f : Env → R D) (ρ : Env) : Sr := bindS (f ρ) ρ fun _ => .nx ρ
def bkS (ρ : Env) : Sr := .bk ρ
def ctS (ρ : Env) : Sr := .ct ρ
def raiseS (c : Str) (ρ : Env) : Sr := .ex c ρ
section
variable {X : Cx} {W : WX} {own own' own'' : List Nat} {ol : Ol} {st : Stmt} {sts : List Stmt} {a b : Env → Sr} {e : Expr} {f g : Env → R D} {pos : Pos}
theorem vs_nil : VSs X W own own ol [] nilS := ⟨pssW pss_nil fun D σ H ⟨B, ρ, x, pn, q⟩ => q σ H x pn⟩
theorem vs_cons (h1 : VS X W own own' ol st a) (h2 : VSs X W own' own'' ol sts b) : VSs X W own own'' ol (st :: sts) (seqS a b) := ⟨pssW (pss_cons h1.ps h2.ps) fun D σ H ⟨B, ρ, x, pn, q⟩ => ⟨B, ρ, x, pn, by
  unfold seqS at q
  cases e : a ρ with
  | nx ρ' => rw [e] at q; exact fun σ' H' x' pn' => ⟨B, ρ', x', pn', q⟩
  | st => rw [e] at q; exact q
  | rt d => rw [e] at q; exact q
  | rb d ρ => rw [e] at q; exact q
  | bk ρ => rw [e] at q; exact q
  | ct ρ => rw [e] at q; exact q
  | ex c ρ => rw [e] at q; exact q⟩⟩
theorem vs_one (h1 : VS X W own own' ol st a) : VSs X W own own' ol [st] a := ⟨pss_one h1.ps⟩
theorem VSs.weak (h : VSs X W own own' ol sts a) (w : ∀ i ∈ own'', i ∈ own' := by decide) : VSs X W own own'' ol sts a := ⟨pssW h.ps fun D σ H ⟨B, ρ, x, pn, q⟩ => ⟨B, ρ, x, pn, q.weak w⟩⟩
theorem VS.weak (h : VS X W own own' ol st a) (w : ∀ i ∈ own'', i ∈ own' := by decide) : VS X W own own'' ol st a := ⟨psW h.ps fun D σ H ⟨B, ρ, x, pn, q⟩ => ⟨B, ρ, x, pn, q.weak w⟩⟩
/-- fewer slots own ahead of a statement -/
theorem VS.pre (h : VS X W own' own'' ol st a) (w : ∀ i ∈ own', i ∈ own := by decide) : VS X W own own'' ol st a := ⟨psW h.ps fun D σ H ⟨B, ρ, x, pn, q⟩ => ⟨B, ρ, x.weak w, pn, q⟩⟩
theorem VSs.pre (h : VSs X W own' own'' ol sts a) (w : ∀ i ∈ own', i ∈ own := by decide) : VSs X W own own'' ol sts a := ⟨pssW h.ps fun D σ H ⟨B, ρ, x, pn, q⟩ => ⟨B, ρ, x.weak w, pn, q⟩⟩
theorem vs_set (i : Nat) {x : Str} {pos' : Pos} (hN : X.N.Nodup) (hi : X.N[i]? = some x) (hx : Loc X.env.scope x) (he : VG X W e f) (hs : swapsWith e (some (.Name x pos')) pos.line X.env = pure false := by rfl) (hf : X.fn x = true ∨ X.env.scope.names.lookup x = some .local := by first | exact .inl rfl | exact .inr rfl | assumption) (we : ∀ i ∈ ol.e, i ∈ own := by first | decide | (dsimp only; decide)) (hp : ol.P i = none := by rfl) :
    VS X W own (i :: own) ol (.Assign [.Name x pos'] e pos) (asgS i f) := ⟨psW (ps_set hN hi hx he.pe hs hf) fun D σ H ⟨B, ρ, x, pn, q⟩ => ⟨ρ, x.env, (SEnd.out x pn we q).mono fun d _ q v H' A s fu n => by
  obtain ⟨S, F, b, y⟩ := x
  exact q _ _ ⟨_, _, b.trans (ext_s []), y.put s fu n i⟩ (pn.set hp)⟩⟩
theorem vs_ret (he : VG X W e f) (we : ∀ i ∈ ol.e, i ∈ own := by first | decide | (dsimp only; decide)) : VS X W own own' ol (.Return (some e) pos) (retS f) := ⟨psW (ps_ret he.pe) fun D σ H ⟨B, ρ, x, pn, q⟩ => ⟨ρ, x.env, (SEnd.out x pn we q).mono fun d _ q v H' A s fu n => q v H' A (x.base.trans s) fu fun a m => x.base.free (n a m)⟩⟩
theorem vs_retN : VS X W own own' ol (.Return none pos) retNS := ⟨psW ps_retN fun D σ H ⟨B, ρ, x, pn, q⟩ => q .non H [] x.base .non (fun _ z => nomatch z)⟩
theorem vs_retV (i : Nat) {x : Str} {pos' : Pos} (p : PE X (.Name x pos') (tVar i)) (hi : i ∈ own := by decide) : VS X W own own' ol (.Return (some (.Name x pos')) pos) (retV i) := ⟨psW (ps_ret p) fun D σ H ⟨B, ρ, x, pn, q⟩ => by
  unfold retV at q
  split at q
  · rename_i d e
    obtain ⟨S, F, b, y⟩ := x
    obtain ⟨v, h1, h2, _⟩ := y.val i d e
    exact ⟨v, h1, q v H (F i) (b.trans y.sub) (h2 hi) fun a m => b.free (y.out i hi a m).1⟩
  · exact q.elim⟩
theorem vs_if {c : Expr} {t : Env → R Bool} {s1 s2 : List Stmt} (hc : VT X W c t) (h1 : VSs X W own own' ol s1 a) (h2 : VSs X W own own' ol s2 b) (we : ∀ i ∈ ol.e, i ∈ own := by first | decide | (dsimp only; decide)) : VS X W own own' ol (.If c s1 s2 pos) (ifS t a b) := ⟨psW (ps_if hc.pt h1.ps h2.ps) fun D σ H ⟨B, ρ, x, pn, q⟩ => ⟨ρ, x.env, (SEnd.out x pn we q).mono fun k _ q H' s => by
  cases k with
  | true => exact ⟨B, ρ, x.grow s, pn, q⟩
  | false => exact ⟨B, ρ, x.grow s, pn, q⟩⟩⟩
theorem vs_expr (he : VE X W e f) (hs : swapsWith e none pos.line X.env = pure false := by rfl) (we : ∀ i ∈ ol.e, i ∈ own := by first | decide | (dsimp only; decide)) : VS X W own own ol (.Expr e pos) (exprS f) := ⟨psW (ps_expr he.pe hs) fun D σ H ⟨B, ρ, x, pn, q⟩ => ⟨ρ, x.env, (SEnd.out x pn we q).mono fun d _ q v H' s _ => q σ H' (x.grow s) pn⟩⟩
theorem vs_pass : VS X W own own ol (.Pass pos) nilS := ⟨psW ps_pass fun D σ H ⟨B, ρ, x, pn, q⟩ => q σ H x pn⟩
theorem vs_break (w : ∀ i ∈ ol.l, i ∈ own := by first | decide | (dsimp only; decide)) : VS X W own own' ol (.Break pos) bkS := ⟨psW ps_break fun D σ H ⟨B, ρ, x, pn, q⟩ => q σ H (x.weak w) pn⟩
theorem vs_continue (w : ∀ i ∈ ol.l, i ∈ own := by first | decide | (dsimp only; decide)) : VS X W own own' ol (.Continue pos) ctS := ⟨psW ps_continue fun D σ H ⟨B, ρ, x, pn, q⟩ => q σ H (x.weak w) pn⟩
theorem vs_raise {cx : Str} {C : Addr} (hc : X.calm = true) (tk : Takes X W) (he : PMk X e (fun _ H Q => Q (.ref C) none H)) (hm : X.mg cx = some (.ref C)) (we : ∀ i ∈ ol.e, i ∈ own := by first | decide | (dsimp only; decide)) : VS X W own own' ol (.Raise (some e) none pos) (raiseS cx) := ⟨psW (ps_raise hc tk he) fun D σ H ⟨B, ρ, x, pn, q⟩ => by
  obtain ⟨C', h1, h2⟩ := q
  rw [hm] at h1
  cases h1
  exact h2 σ H (x.weak we) pn⟩
end

/-! ### a def -/
def bodyR : Sr → R D
  | .nx _ => .ok .non
  | .rt d => .ok d
  | .ex c _ => .ex c
  | _ => .st
def runB (n : Nat) (b : Env → Sr) (ds : List D) : R D := bodyR (b (ds.map some ++ List.replicate (n - ds.length) none))
section
variable {P : Program} {w : World} {K : PySem.W.Frag} {mg : Str → Option Value} {base : Heap}
theorem start_env {N : List Str} {vs : List V} {ds : List D} {H : Hp} (r : Rds K H vs ds) (hl : vs.length ≤ N.length) : Sta [] H K (ds.map some ++ List.replicate (N.length - ds.length) none) (L2.start N vs) H := by
  refine ⟨H, fun _ => [], Same.refl H, ?_, Same.refl H, fun a o e _ => e, fun i d q => ?_, (fun i m => nomatch m), (fun i m => nomatch m)⟩
  · unfold L2.start
    simp [r.length]
  · rw [List.getElem?_append] at q
    split at q
    · rename_i hi
      rw [List.getElem?_map] at q
      cases e : ds[i]? with
      | none => rw [e] at q; cases q
      | some d' =>
        rw [e] at q
        cases q
        obtain ⟨v, h1, h2⟩ := r.get e
        refine ⟨v, ?_, (fun m => nomatch m), fun _ => h2⟩
        unfold L2.start
        rw [List.getElem?_append_left (by rw [List.length_map, r.length]; simpa using hi), List.getElem?_map, h1]
        rfl
    · rw [List.getElem?_replicate] at q
      split at q <;> cases q
theorem fn_ok {x qual : Str} {st : Stmt} {f : Addr} {fd : FuncData} {N ps : List Str} {k : Nat} {own' : List Nat} {b : Env → Sr} (F : Fun K x qual st f fd) (S : FnScope N ps (defScope st)) (hps : ps.length ≤ N.length)
    (hbody : ∀ (cdv : Value) (A : Around) (outer : List PySem.Env) (s : Shared) (H : Hp) (E : XK), Room k (A.deeper (envOfC qual (defScope st) s.heap.objs.size f cdv)) →
      VSs (cxOf (L2.CX P w) P w K mg base N qual (defScope st) f cdv A outer s H E) (fun cls d _ H => E cls d H) [] own' nol (defBody st) b) :
    FnOk P w K mg base (L2.CX P w) (k + 1) f fd ps (spF K mg ps.length (runB N.length b)) := by
  refine F.okX S (fun vs H Q E h => h.1) (fun cdv A outer s H vs Q E hr h => ?_)
  obtain ⟨hl, ds, r, h⟩ := h
  refine ⟨_, (hbody cdv A outer s H E hr).ps, H, _, start_env r (by rw [hl]; exact hps), Pin.nol, ?_⟩
  unfold runB at h
  generalize b (ds.map some ++ List.replicate (N.length - ds.length) none) = q at h
  cases q with
  | st => exact h
  | nx ρ => exact fun σ H' y _ => h .non H' [] y.base .non (fun _ z => nomatch z)
  | rt d => exact h
  | rb d ρ => exact h.elim
  | bk ρ => exact h.elim
  | ct ρ => exact h.elim
  | ex c ρ =>
    obtain ⟨C, h1, h2⟩ := h
    exact ⟨C, h1, fun σ H' y _ => h2 H' y.base⟩
end
end Vs

namespace Vs
open PySem PySem.Spec PyProof.Rows L2

/-! ### what is walked -/
section
variable {K : PySem.W.Frag} {H H' S S' : Hp} {A : List Addr}
theorem ext_mono (s : Same H H') (sS : Same S H) : Same (ext S H A) (ext S H' A) := fun b o e => by
  unfold ext at e ⊢
  cases q : S b with
  | some u => rw [q] at e; exact e
  | none =>
    rw [q] at e
    cases q' : H b with
    | some u =>
      rw [q'] at e
      rw [s b u q']
      simp only at e ⊢
      split at e
      · rename_i c; rw [if_pos c]; exact e
      · cases e
    | none => rw [q'] at e; cases e
theorem ext_sub (s : Same S S') (sS : Same S' H) : Same (ext S H []) (ext S' H []) := fun b o e => by
  have e' := ext_h (s.trans sS) [] b o e
  unfold ext at e ⊢
  cases q : S b with
  | some u => rw [q] at e; rw [s b u q]; exact e
  | none =>
    rw [q, e'] at e
    simp only at e
    split at e
    · rename_i c
      cases q' : S' b with
      | some u => have := sS b u q'; rw [e'] at this; exact this.symm
      | none => rw [e']; simp only; rw [if_pos c]
    · cases e
/-- at each turn the next of ds, from a heap that keeps S0 -/
def IterOk (K : PySem.W.Frag) (J : It) (S0 : Hp) (ds : List D) : Prop := ∀ (S H : Hp) (i : Nat), Same S0 S → Same S H →
  (∀ d, ds[i]? = some d → J.go i H ∧ ∀ x H', J.yld i H x H' → Same H H' ∧ Rd K (ext S H' []) x d) ∧ (ds.length ≤ i → J.stop i H)
theorem it_list {a : Addr} {vs : List V} {ds : List D} (h : SqL K S a vs) (r : Rds K S vs ds) : IterOk K (Itl K a) S ds := fun S1 H1 i s1 s2 => by
  have hq : SqL K H1 a vs := (s1.trans s2).seq h
  refine ⟨fun d hd => ?_, fun hl => ⟨vs, hq, by rw [r.length]; exact hl⟩⟩
  obtain ⟨v, hv, rv⟩ := r.get hd
  refine ⟨⟨vs, v, hq, hv⟩, fun x H' y => ?_⟩
  obtain ⟨rfl, y⟩ := y
  have e := y vs hq
  rw [hv] at e
  cases e
  exact ⟨Same.refl _, rv.mono (s1.trans (ext_s []))⟩
theorem it_tup {a : Addr} {vs : List V} {ds : List D} (h : TpT K S a vs) (r : Rds K S vs ds) : IterOk K (Itt K a) S ds := fun S1 H1 i s1 s2 => by
  have hq : SqT K H1 a vs := (seqT (s1.trans s2) h).sq
  refine ⟨fun d hd => ?_, fun hl => ⟨vs, hq, by rw [r.length]; exact hl⟩⟩
  obtain ⟨v, hv, rv⟩ := r.get hd
  refine ⟨⟨vs, v, hq, hv⟩, fun x H' y => ?_⟩
  obtain ⟨rfl, y⟩ := y
  have e := y vs hq
  rw [hv] at e
  cases e
  exact ⟨Same.refl _, rv.mono (s1.trans (ext_s []))⟩
theorem get_rev {α : Type} {xs : List α} {i : Nat} (h : i < xs.length) : xs[xs.length - 1 - i]? = xs.reverse[i]? := by
  rw [List.getElem?_reverse h]
theorem rds_rev {vs : List V} {ds : List D} (r : Rds K S vs ds) {i : Nat} {d : D} (hd : ds.reverse[i]? = some d) : i < vs.length ∧ ∃ v, vs[vs.length - 1 - i]? = some v ∧ Rd K S v d := by
  have hi : i < ds.length := by
    have := (List.getElem?_eq_some_iff.mp hd).1
    simpa using this
  rw [← get_rev hi] at hd
  obtain ⟨v, hv, rv⟩ := r.get hd
  rw [r.length]
  exact ⟨hi, v, hv, rv⟩
theorem it_revL {a : Addr} {vs : List V} {ds : List D} (h : SqL K S a vs) (r : Rds K S vs ds) : IterOk K (Itv K a vs.length) S ds.reverse := fun S1 H1 i s1 s2 => by
  have hq : SqL K H1 a vs := (s1.trans s2).seq h
  refine ⟨fun d hd => ?_, fun hl => (by rw [List.length_reverse, ← r.length] at hl; exact hl)⟩
  obtain ⟨hi, v, hv, rv⟩ := rds_rev r hd
  refine ⟨⟨hi, vs, v, hq, hv⟩, fun x H' y => ?_⟩
  obtain ⟨rfl, y⟩ := y
  have e := y vs hq
  rw [hv] at e
  cases e
  exact ⟨Same.refl _, rv.mono (s1.trans (ext_s []))⟩
theorem it_revT {a : Addr} {vs : List V} {ds : List D} (h : TpT K S a vs) (r : Rds K S vs ds) : IterOk K (RT.ItvT K a vs.length) S ds.reverse := fun S1 H1 i s1 s2 => by
  have hq : SqT K H1 a vs := (seqT (s1.trans s2) h).sq
  refine ⟨fun d hd => ?_, fun hl => (by rw [List.length_reverse, ← r.length] at hl; exact hl)⟩
  obtain ⟨hi, v, hv, rv⟩ := rds_rev r hd
  refine ⟨⟨hi, vs, v, hq, hv⟩, fun x H' y => ?_⟩
  obtain ⟨rfl, y⟩ := y
  have e := y vs hq
  rw [hv] at e
  cases e
  exact ⟨Same.refl _, rv.mono (s1.trans (ext_s []))⟩
def rngL (lo : Int) (n : Nat) : List D := (List.range n).map fun (i : Nat) => D.int (lo + (i : Int))
def rngC (lo c : Int) (n : Nat) : List D := (List.range n).map fun (i : Nat) => D.int (lo + (i : Int) * c)
theorem rngC_get {lo c : Int} {n i : Nat} {d : D} (h : (rngC lo c n)[i]? = some d) : i < n ∧ d = .int (lo + (i : Int) * c) := by
  unfold rngC at h
  rw [List.getElem?_map] at h
  cases e : (List.range n)[i]? with
  | none => rw [e] at h; cases h
  | some j =>
    rw [e] at h
    have q := List.getElem?_eq_some_iff.mp e
    obtain ⟨q1, q2⟩ := q
    rw [List.getElem_range] at q2
    subst q2
    cases h
    exact ⟨by simpa using q1, rfl⟩
theorem rngL_eq (lo : Int) (n : Nat) : rngL lo n = rngC lo 1 n := by unfold rngL rngC; simp
theorem it_rng (lo : Int) (n : Nat) : IterOk K (Itr lo n) S (rngL lo n) := fun S1 H1 i s1 s2 => by
  refine ⟨fun d hd => ?_, fun hl => (show n ≤ i by simpa [rngL] using hl)⟩
  rw [rngL_eq] at hd
  obtain ⟨hi, rfl⟩ := rngC_get hd
  refine ⟨hi, fun x H' y => ?_⟩
  obtain ⟨rfl, rfl⟩ := y
  rw [Int.mul_one]
  exact ⟨Same.refl _, .int _⟩
theorem it_rngC (lo c : Int) (n : Nat) : IterOk K (Itc lo c n) S (rngC lo c n) := fun S1 H1 i s1 s2 => by
  refine ⟨fun d hd => ?_, fun hl => (show n ≤ i by simpa [rngC] using hl)⟩
  obtain ⟨hi, rfl⟩ := rngC_get hd
  refine ⟨hi, fun x H' y => ?_⟩
  obtain ⟨rfl, rfl⟩ := y
  exact ⟨Same.refl _, .int _⟩
def strL (x : Str) : List D := x.cps.toList.map fun c => D.str ⟨#[c]⟩
theorem it_str (x : Str) : IterOk K (Its x) S (strL x) := fun S1 H1 i s1 s2 => by
  refine ⟨fun d hd => ?_, fun hl => (show x.cps.size ≤ i by simpa [strL] using hl)⟩
  unfold strL at hd
  rw [List.getElem?_map, Array.getElem?_toList] at hd
  cases e : x.cps[i]? with
  | none => rw [e] at hd; cases hd
  | some c =>
    rw [e] at hd
    cases hd
    refine ⟨(Array.getElem?_eq_some_iff.mp e).1, fun v H' y => ?_⟩
    obtain ⟨rfl, c', h1, rfl⟩ := y
    rw [e] at h1
    cases h1
    exact ⟨Same.refl _, .str _⟩
def enumL : Nat → List D → List D
  | _, [] => []
  | n, d :: ds => .tup [.int n, d] :: enumL (n + 1) ds
theorem enumL_get : ∀ {ds : List D} {n i : Nat} {d : D}, (enumL n ds)[i]? = some d → ∃ e, ds[i]? = some e ∧ d = .tup [.int ((n + i : Nat) : Int), e]
  | [], n, i, d, h => by simp [enumL] at h
  | x :: ds, n, 0, d, h => by
    simp [enumL] at h
    exact ⟨x, rfl, by rw [← h]; rfl⟩
  | x :: ds, n, i + 1, d, h => by
    simp only [enumL, List.getElem?_cons_succ] at h
    obtain ⟨e, h1, h2⟩ := enumL_get h
    exact ⟨e, by simpa using h1, by rw [h2, show n + 1 + i = n + (i + 1) from by omega]⟩
theorem enumL_length : ∀ {ds : List D} {n : Nat}, (enumL n ds).length = ds.length
  | [], _ => rfl
  | x :: ds, n => by simp [enumL, enumL_length]
theorem it_enum {a : Addr} {vs : List V} {ds : List D} (h : SqL K S a vs) (r : Rds K S vs ds) : IterOk K (Ite K a) S (enumL 0 ds) := fun S1 H1 i s1 s2 => by
  have hq : SqL K H1 a vs := (s1.trans s2).seq h
  refine ⟨fun d hd => ?_, fun hl => ⟨vs, hq, by rw [r.length, ← enumL_length (ds := ds) (n := 0)]; exact hl⟩⟩
  obtain ⟨e, h1, rfl⟩ := enumL_get hd
  obtain ⟨v, hv, rv⟩ := r.get h1
  refine ⟨⟨vs, v, hq, hv⟩, fun x H' y => ?_⟩
  obtain ⟨T, u, rfl, hT, rfl, y⟩ := y
  have e := y vs hq
  rw [hv] at e
  cases e
  have sn : Same H1 (upd H1 T (.tup [.int (i : Nat), v])) := new_same hT
  refine ⟨sn, .tup (.inl (ext_stt (s2.trans sn) upd_same trivial)) (.cons ?_ (.cons (rv.mono (s1.trans (ext_s []))) .nil))⟩
  rw [Nat.zero_add]
  exact .int _
def zipL : List D → List D → List D
  | d :: ds, e :: es => .tup [d, e] :: zipL ds es
  | _, _ => []
theorem zipL_get : ∀ {ds es : List D} {i : Nat} {d : D}, (zipL ds es)[i]? = some d → ∃ x y, ds[i]? = some x ∧ es[i]? = some y ∧ d = .tup [x, y]
  | [], _, i, d, h => by simp [zipL] at h
  | _ :: _, [], i, d, h => by simp [zipL] at h
  | x :: ds, y :: es, 0, d, h => by
    simp [zipL] at h
    exact ⟨x, y, rfl, rfl, h.symm⟩
  | x :: ds, y :: es, i + 1, d, h => by
    simp only [zipL, List.getElem?_cons_succ] at h ⊢
    exact zipL_get h
theorem zipL_length : ∀ {ds es : List D}, (zipL ds es).length = min ds.length es.length
  | [], _ => by simp [zipL]
  | _ :: _, [] => by simp [zipL]
  | x :: ds, y :: es => by simp [zipL, zipL_length]
theorem it_zip {a b : Addr} {vs ws : List V} {ds es : List D} (h : SqL K S a vs) (r : Rds K S vs ds) (h' : SqL K S b ws) (r' : Rds K S ws es) : IterOk K (Itz K a b) S (zipL ds es) := fun S1 H1 i s1 s2 => by
  have hq : SqL K H1 a vs := (s1.trans s2).seq h
  have hq' : SqL K H1 b ws := (s1.trans s2).seq h'
  refine ⟨fun d hd => ?_, fun hl => ⟨vs, ws, hq, hq', by rw [r.length, r'.length]; rw [zipL_length] at hl; omega⟩⟩
  obtain ⟨x, y, h1, h2, rfl⟩ := zipL_get hd
  obtain ⟨v, hv, rv⟩ := r.get h1
  obtain ⟨w, hw, rw_⟩ := r'.get h2
  refine ⟨⟨vs, ws, v, w, hq, hq', hv, hw⟩, fun x H' y => ?_⟩
  obtain ⟨T, u, u', rfl, hT, rfl, y, y'⟩ := y
  have e := y vs hq
  rw [hv] at e
  cases e
  have e := y' ws hq'
  rw [hw] at e
  cases e
  have sn : Same H1 (upd H1 T (.tup [v, w])) := new_same hT
  exact ⟨sn, .tup (.inl (ext_stt (s2.trans sn) upd_same trivial)) (.cons (rv.mono (s1.trans (ext_s []))) (.cons (rw_.mono (s1.trans (ext_s []))) .nil))⟩
end

/-! ### sources: what they hand out stays -/
def tP (K : PySem.W.Frag) (mg : Str → Option Value) (W : WX) (own : List Nat) (f : Env → R D) : TE := fun σ H Q => ∃ ρ S F, Stx own K S F ρ σ H ∧ Out mg W σ H (f ρ) fun d => ∀ v H' A, Same H H' → (∀ a ∈ A, H a = none) → Rd K (ext S H' A) v d → Q v H'
def tPs (K : PySem.W.Frag) (mg : Str → Option Value) (W : WX) (own : List Nat) (f : Env → R (List D)) : TA := fun σ H Q => ∃ ρ S F, Stx own K S F ρ σ H ∧ Out mg W σ H (f ρ) fun d => ∀ v H' A, Same H H' → (∀ a ∈ A, H a = none) → Rds K (ext S H' A) v d → Q v H'
structure VP (X : Cx) (W : WX) (own : List Nat) (e : Expr) (f : Env → R D) : Prop where
  pe : PE X e (tP X.K X.mg W own f)
structure VPs (X : Cx) (W : WX) (own : List Nat) (e : List Expr) (f : Env → R (List D)) : Prop where
  pa : PA X e (tPs X.K X.mg W own f)
def tI (K : PySem.W.Frag) (mg : Str → Option Value) (W : WX) (own : List Nat) (f : Env → R (List D)) : TI := fun σ H R => ∃ ρ S F, Stx own K S F ρ σ H ∧ Out mg W σ H (f ρ) fun ds => ∀ J H' A, Same H H' → (∀ a ∈ A, H a = none) → IterOk K J (ext S H' A) ds → R J H'
structure VI (X : Cx) (W : WX) (own : List Nat) (tg iter : Expr) (f : Env → R (List D)) : Prop where
  pi : PI X tg iter (tI X.K X.mg W own f)
theorem piW {X : Cx} {tg e : Expr} {t u : TI} (h : PI X tg e t) (q : ∀ σ H Q, u σ H Q → t σ H Q) : PI X tg e u := ⟨fun pins s σ H Q I x => h.run pins s σ H Q I (q σ H Q x)⟩
theorem piOr {X : Cx} {tg e : Expr} {t u : TI} (h : PI X tg e t) (h' : PI X tg e u) : PI X tg e (fun σ H R => t σ H R ∨ u σ H R) := ⟨fun pins s σ H R I x => x.elim (h.run pins s σ H R I) (h'.run pins s σ H R I)⟩
section
variable {X : Cx} {W : WX} {own : List Nat} {e a b c tg : Expr} {es : List Expr} {f g : Env → R D} {fs : Env → R (List D)} {x : Str} {p pos : Pos}
theorem vp_var (i : Nat) (q : PE X (.Name x pos) (tVar i)) (hi : i ∉ own := by decide) : VP X W own (.Name x pos) (varE i) := ⟨peW q fun σ H Q ⟨ρ, S, F, st, o⟩ => by
  unfold varE at o
  split at o
  · rename_i d e
    obtain ⟨v, h1, _, h2⟩ := st.val i d e
    exact ⟨v, h1, o v H [] (Same.refl H) (fun _ z => nomatch z) ((h2 hi).mono (ext_s _))⟩
  · exact o.elim⟩
theorem VG.vp (v : VG X W e f) : VP X W own e f := ⟨peW v.pe fun σ H Q ⟨ρ, S, F, st, o⟩ => ⟨ρ, st.env, o.mono fun d _ q v H' A s fu n => q v H' A s n (fu.ext (st.sub.trans s) fun _ m => m)⟩⟩
theorem vp_ix (ha : VP X W own a f) (hb : VE X W b g) (hs : PlainIx b) : VP X W own (.Subscript a b pos) (op2 ixD f g) :=
  ⟨peW (pe_ix ix_seq ha.pe hb.pe hs) fun σ H Q ⟨ρ, S, F, st, o⟩ => ⟨ρ, S, F, st, (Out.bind o).mono fun d _ q v H1 A s1 n1 r1 => ⟨ρ, st.env.mono s1, ((Out.bind q).up s1).mono fun e _ q w H2 s2 r2 => by
    have sS : Same S H2 := st.sub.trans (s1.trans s2)
    have r1 := r1.mono (ext_mono (A := A) s2 (st.sub.trans s1))
    unfold ixD at q
    split at q
    · split at q
      · rename_i hx
        cases r2
        cases r1 with
        | lst h1 r1 =>
          obtain ⟨u, hu, ru⟩ := atI_rd r1 hx
          exact .inl ⟨_, _, _, u, rfl, rfl, (ext_h sS A).seq h1, hu, q u H2 A (s1.trans s2) n1 ru⟩
      · exact q.elim
    · split at q
      · rename_i hx
        cases r2
        cases r1 with
        | tup h1 r1 =>
          obtain ⟨u, hu, ru⟩ := atI_rd r1 hx
          exact .inr (.inl ⟨_, _, _, u, rfl, rfl, (seqT (ext_h sS A) h1).sq, hu, q u H2 A (s1.trans s2) n1 ru⟩)
      · exact q.elim
    · split at q
      · rename_i hz
        split at q
        · rename_i hx
          cases r2
          cases r1
          exact .inr (.inr ⟨_, _, _, rfl, rfl, hz, hx, q _ H2 A (s1.trans s2) n1 (.str _)⟩)
        · exact q.elim
      · exact q.elim
    · exact q.elim⟩⟩⟩
theorem vps_nil : VPs X W own [] nilA := ⟨paW pa_nil fun σ H Q ⟨ρ, S, F, st, o⟩ => o [] H [] (Same.refl H) (fun _ z => nomatch z) .nil⟩
theorem vps_cons (ha : VP X W own e f) (hr : VPs X W own es fs) (hs : starEach (e :: es) X.env = (false, eval e X.env) :: starEach es X.env := by rfl) : VPs X W own (e :: es) (consA f fs) :=
  ⟨paW (pa_cons ha.pe hr.pa hs) fun σ H Q ⟨ρ, S, F, st, o⟩ => ⟨ρ, S, F, st, (Out.bind o).mono fun d _ q v H1 A s1 n1 r1 => ⟨ρ, ext S H1 A, F, st.grow s1 n1, ((Out.bind q).up s1).mono fun ds _ q vs H2 B s2 n2 r2 => by
    have k1 : Same (ext (ext S H1 A) H2 B) (ext S H2 (A ++ B)) := fun b o hb => by
      have hb2 := ext_h (S := ext S H1 A) ((ext_h (st.sub.trans s1) A).trans s2) B b o hb
      unfold ext at hb ⊢
      cases q1 : S b with
      | some u => rw [q1] at hb; exact hb
      | none =>
        rw [q1] at hb
        simp only at hb ⊢
        rw [hb2] at hb ⊢
        simp only at hb ⊢
        cases q2 : H1 b with
        | none =>
          rw [q2] at hb
          simp only at hb
          split at hb
          · rename_i c; rw [if_pos (c.imp id fun z => List.mem_append_right _ z)]
          · cases hb
        | some u =>
          rw [q2] at hb
          simp only at hb
          by_cases c : Stt u ∨ b ∈ A
          · have eu : u = o := by
              have := s2 b u q2
              rw [hb2] at this
              exact (Option.some.inj this).symm
            subst eu
            rw [if_pos (c.imp id fun z => List.mem_append_left _ z)]
          · rw [if_neg c] at hb
            simp only at hb
            split at hb
            · rename_i c; rw [if_pos (c.imp id fun z => List.mem_append_right _ z)]
            · cases hb
    exact q (v :: vs) H2 (A ++ B) (s1.trans s2) (fun x hx => (List.mem_append.mp hx).elim (fun z => n1 x z) fun z => s1.free (n2 x z)) (.cons (r1.mono ((ext_s B).trans k1)) (r2.mono k1))⟩⟩⟩

/-! ### iterables -/
def itV (g : D → R (List D)) (f : Env → R D) (ρ : Env) : R (List D) := (f ρ).bind g
def itR (g : List D → R (List D)) (f : Env → R (List D)) (ρ : Env) : R (List D) := (f ρ).bind g
def revR : D → R (List D)
  | .lst xs => .ok xs.reverse
  | .tup xs => .ok xs.reverse
  | _ => .st
def enumR : List D → R (List D)
  | [.lst xs] => .ok (enumL 0 xs)
  | _ => .st
def zipR : List D → R (List D)
  | [.lst xs, .lst ys] => .ok (zipL xs ys)
  | _ => .st
def itemsR : D → R (List D)
  | .lst xs => .ok xs
  | .tup xs => .ok xs
  | .str x => .ok (strL x)
  | _ => .st
theorem vi_seq (ha : VP X W own a f) : VI X W own tg a (itV itemsR f) := ⟨piW (piOr (pi_list ha.pe) (piOr (pi_tup ha.pe) (pi_str ha.pe))) fun σ H Q ⟨ρ, S, F, st, o⟩ => by
  have o := Out.bind o
  cases hd : f ρ with
  | ok d =>
    rw [hd] at o
    have o : Out X.mg W σ H (itemsR d) _ := o
    cases d with
    | lst xs =>
      refine .inl ⟨ρ, S, F, st, ?_⟩
      rw [hd]
      intro v H' A s n r
      cases r with
      | lst h r => exact ⟨_, rfl, ⟨_, (ext_h (st.sub.trans s) A).seq h⟩, o _ H' A s n (it_list h r)⟩
    | tup xs =>
      refine .inr (.inl ⟨ρ, S, F, st, ?_⟩)
      rw [hd]
      intro v H' A s n r
      cases r with
      | tup h r => exact ⟨_, rfl, ⟨_, (seqT (ext_h (st.sub.trans s) A) h).sq⟩, o _ H' A s n (it_tup h r)⟩
    | str x =>
      refine .inr (.inr ⟨ρ, S, F, st, ?_⟩)
      rw [hd]
      intro v H' A s n r
      cases r
      exact ⟨x, rfl, o _ H' A s n (it_str x)⟩
    | _ => exact o.elim
  | ex c =>
    rw [hd] at o
    refine .inl ⟨ρ, S, F, st, ?_⟩
    rw [hd]
    exact o
  | st => rw [hd] at o; exact o.elim⟩
theorem vi_rev (hg : Gl X "reversed") (hm : X.mg "reversed" = none) (ha : VP X W own a f) (hs : starEach [a] X.env = (false, eval a X.env) :: starEach [] X.env := by rfl) :
    VI X W own tg (.Call (.Name "reversed" p) [a] [] pos) (itV revR f) :=
  ⟨piW (RT.pi_revA hg hm ha.pe hs) fun σ H Q ⟨ρ, S, F, st, o⟩ => ⟨ρ, S, F, st, (Out.bind o).mono fun d _ q v H' A s n r => by
    cases r with
    | lst h r => exact ⟨_, _, rfl, .inl ⟨(ext_h (st.sub.trans s) A).seq h, q _ H' A s n (it_revL h r)⟩⟩
    | tup h r => exact ⟨_, _, rfl, .inr ⟨(seqT (ext_h (st.sub.trans s) A) h).sq, q _ H' A s n (it_revT h r)⟩⟩
    | _ => exact q.elim⟩⟩
def bnd (i : Int) : Prop := -(2 ^ 62) ≤ i ∧ i < 2 ^ 62
instance (i : Int) : Decidable (bnd i) := inferInstanceAs (Decidable (_ ∧ _))
def rng1 : List D → R (List D)
  | [.int j] => if bnd j then .ok (rngL 0 j.toNat) else .st
  | _ => .st
def rng2 : List D → R (List D)
  | [.int i, .int j] => if bnd i ∧ bnd j then .ok (rngL i (j - i).toNat) else .st
  | _ => .st
/-- how many turns a range has -/
def rngN (i j c : Int) : Nat := if 0 < c then ((j - i + c - 1) / c).toNat else if c < 0 then ((i - j - c - 1) / (-c)).toNat else 0
def rng3 : List D → R (List D)
  | [.int i, .int j, .int c] => if bnd i ∧ bnd j ∧ c ≠ 0 ∧ c.natAbs < 1073741824 then .ok (rngC i c (rngN i j c)) else .st
  | _ => .st
theorem vi_rng1 (hg : Gl X "range") (hm : X.mg "range" = none) (ha : VA X W [a] fs) (hs : starEach [a] X.env = [(false, eval a X.env)] := by rfl) : VI X W own tg (.Call (.Name "range" p) [a] [] pos) (itR rng1 fs) :=
  ⟨piW (pi_range1 hg hm ha.pa hs) fun σ H Q ⟨ρ, S, F, st, o⟩ => ⟨ρ, st.env, (Out.bind o).mono fun ds _ q vs H' s r => by
    unfold rng1 at q
    split at q
    · obtain ⟨v, rfl, h1⟩ := rds1 r
      split at q
      · rename_i c
        cases h1
        exact ⟨_, rfl, c.1, c.2, q _ H' [] s (fun _ z => nomatch z) (it_rng 0 _)⟩
      · exact q.elim
    · exact q.elim⟩⟩
theorem vi_rng2 (hg : Gl X "range") (hm : X.mg "range" = none) (ha : VA X W [a, b] fs) (hs : starEach [a, b] X.env = [(false, eval a X.env), (false, eval b X.env)] := by rfl) (hs2 : starEach [b] X.env = [(false, eval b X.env)] := by rfl) :
    VI X W own tg (.Call (.Name "range" p) [a, b] [] pos) (itR rng2 fs) :=
  ⟨piW (pi_range2 hg hm ha.pa hs hs2) fun σ H Q ⟨ρ, S, F, st, o⟩ => ⟨ρ, st.env, (Out.bind o).mono fun ds _ q vs H' s r => by
    unfold rng2 at q
    split at q
    · obtain ⟨v, w, rfl, h1, h2⟩ := rds2 r
      split at q
      · rename_i c
        cases h1
        cases h2
        exact ⟨_, _, rfl, ⟨c.1.1, c.1.2, c.2.1, c.2.2⟩, q _ H' [] s (fun _ z => nomatch z) (it_rng _ _)⟩
      · exact q.elim
    · exact q.elim⟩⟩
theorem vi_enum {elts : List Expr} {kk : Nat} {tpos : Pos} (hg : Gl X "enumerate") (hm : X.mg "enumerate" = none) (ha : VPs X W own [a] fs) (hs : starEach [a] X.env = [(false, eval a X.env)] := by rfl) :
    VI X W own (.Tuple elts kk tpos) (.Call (.Name "enumerate" p) [a] [] pos) (itR enumR fs) :=
  ⟨piW (pi_enum hg hm ha.pa hs) fun σ H Q ⟨ρ, S, F, st, o⟩ => ⟨ρ, S, F, st, (Out.bind o).mono fun ds _ q vs H' A s n r => by
    unfold enumR at q
    split at q
    · obtain ⟨v, rfl, h1⟩ := rds1 r
      cases h1 with
      | lst h r => exact ⟨_, _, rfl, (ext_h (st.sub.trans s) A).seq h, q _ H' A s n (it_enum h r)⟩
    · exact q.elim⟩⟩
theorem vi_zip {elts : List Expr} {kk : Nat} {tpos : Pos} (hg : Gl X "zip") (hm : X.mg "zip" = none) (ha : VPs X W own [a, b] fs) (hs : starEach [a, b] X.env = (false, eval a X.env) :: starEach [b] X.env := by rfl) (hpl : (backTo pos (starEach [b] X.env)).any (·.1) = false := by rfl) :
    VI X W own (.Tuple elts kk tpos) (.Call (.Name "zip" p) [a, b] [] pos) (itR zipR fs) :=
  ⟨piW (pi_zip hg hm ha.pa hs hpl) fun σ H Q ⟨ρ, S, F, st, o⟩ => ⟨ρ, S, F, st, (Out.bind o).mono fun ds _ q vs H' A s n r => by
    unfold zipR at q
    split at q
    · obtain ⟨v, w, rfl, h1, h2⟩ := rds2 r
      cases h1 with
      | lst h r1 =>
        cases h2 with
        | lst h' r' => exact ⟨_, _, _, _, rfl, (ext_h (st.sub.trans s) A).seq h, (ext_h (st.sub.trans s) A).seq h', q _ H' A s n (it_zip h r1 h' r')⟩
    · exact q.elim⟩⟩
end
end Vs

namespace Vs
open PySem PySem.Spec PyProof.Rows L2

/-! ### targets of a loop -/
def TgOk (X : Cx) (own slots : List Nat) (g : TG) (tf : D → Env → Option Env) : Prop := ∀ (S : Hp) (F : Nat → List Addr) (ρ : Env) (σ : L2.St) (H : Hp) (x : V) (d : D) (ρ' : Env), Stx own X.K S F ρ σ H → Rd X.K S x d → tf d ρ = some ρ' →
  ∀ Q : L2.St → Hp → Prop, (∀ σ', Stx own X.K S F ρ' σ' H → (∀ k, k ∉ slots → σ'[k]? = σ[k]?) → σ'.length = σ.length → Q σ' H) → g x σ H Q
structure VG' (X : Cx) (own slots : List Nat) (tg : Expr) (tf : D → Env → Option Env) : Prop where
  ex : ∃ g, PG X tg g ∧ TgOk X own slots g tf
def tgN (i : Nat) (d : D) (ρ : Env) : Option Env := some (ρ.set i (some d))
def tgT (i j : Nat) (d : D) (ρ : Env) : Option Env := match d with
  | .tup [a, b] => some ((ρ.set i (some a)).set j (some b))
  | _ => none
section
variable {X : Cx} {own : List Nat} {pos : Pos}
theorem tg_name (i : Nat) {x : Str} (p : PG X (.Name x pos) (gName i)) (hi : i ∉ own := by decide) : VG' X own [i] (.Name x pos) (tgN i) := ⟨_, p, fun S F ρ σ H v d ρ' st r e Q q => by
  cases e
  refine q _ (st.lay hi r) (fun k hk => ?_) (by rw [List.length_set])
  rw [List.getElem?_set_ne fun e => hk (List.mem_singleton.mpr e.symm)]⟩
theorem tg_tup (i j : Nat) {es : List Expr} {kk : Nat} (p : PG X (.Tuple es kk pos) (gTup X.K 2 (gCons (gName i) (gCons (gName j) gNil)))) (hi : i ∉ own := by decide) (hj : j ∉ own := by decide) : VG' X own [i, j] (.Tuple es kk pos) (tgT i j) := ⟨_, p, fun S F ρ σ H v d ρ' st r e Q q => by
  unfold tgT at e
  split at e
  · cases e
    cases r with
    | tup h r =>
      obtain ⟨v, w, rfl, h1, h2⟩ := rds2 r
      refine ⟨_, _, rfl, (seqT st.sub h).sq, rfl, v, [w], rfl, w, [], rfl, rfl, ?_⟩
      refine q _ ((st.lay hi h1).lay hj h2) (fun k hk => ?_) (by rw [List.length_set, List.length_set])
      rw [List.getElem?_set_ne fun e => hk (by simp [e]), List.getElem?_set_ne fun e => hk (by simp [e])]
  · cases e⟩
end

/-! ### for -/
def forL (tf : D → Env → Option Env) (b : Env → Sr) : List D → Env → Sr
  | [], ρ => .nx ρ
  | d :: ds, ρ => match tf d ρ with
    | none => .st
    | some ρ1 => match b ρ1 with
      | .nx ρ2 => forL tf b ds ρ2
      | .ct ρ2 => forL tf b ds ρ2
      | .bk ρ2 => .nx ρ2
      | r => r
def forS (fi : Env → R (List D)) (tf : D → Env → Option Env) (b : Env → Sr) (ρ : Env) : Sr := bindS (fi ρ) ρ fun ds => forL tf b ds ρ
section
variable {X : Cx} {W : WX} {own own' own'' slots : List Nat} {ol : Ol} {tg iter : Expr} {body : List Stmt} {fi : Env → R (List D)} {tf : D → Env → Option Env} {b : Env → Sr} {pos : Pos}
theorem vs_for (hp : PassesOwn (model X.prog X.w) X.A X.env X.xe) (hc : X.calm = true) (hi : VI X W own tg iter fi) (hg : VG' X own slots tg tf) (hb : VSs X W own own { ol with l := own } body b)
    (hs : ∀ x, foldedSetIterable iter X.env x = pure x := by intro _; rfl) (we : ∀ i ∈ ol.e, i ∈ own := by first | decide | (dsimp only; decide)) (hpn : ∀ i ∈ slots, ol.P i = none := by first | exact (fun _ _ => rfl) | (intro i hi; simp only [List.mem_cons, List.not_mem_nil, or_false] at hi; (repeat' (rcases hi with rfl | hi)) <;> first | rfl | (subst hi; rfl))) : VS X W own own ol (.For tg iter body [] pos) (forS fi tf b) := by
  obtain ⟨g, pg, tk⟩ := hg
  refine ⟨psW (ps_for hp hc hi.pi pg hb.ps hs) fun D σ H ⟨B, ρ, x, pn, q⟩ => ?_⟩
  have q0 := SEnd.out x pn we q
  obtain ⟨S, F, bS, st⟩ := x
  refine ⟨ρ, S, F, st, q0.mono fun ds _ q J H1 A s1 n1 it => ?_⟩
  have st1 := st.grow s1 n1
  generalize hB : ext S H1 A = B1 at it st1
  have sB : Same B B1 := by rw [← hB]; exact bS.trans (ext_s A)
  refine ⟨fun i m σ H => m = ds.length - i ∧ i ≤ ds.length ∧ ∃ ρ, Sta own B1 X.K ρ σ H ∧ Pin ol.P σ ∧ SEnd X.K X.mg W own ol B1 D (forL tf b (ds.drop i) ρ), ⟨ds.length, by simp, Nat.zero_le _, ρ, ⟨B1, F, Same.refl _, st1⟩, pn, q.up sB⟩, ?_⟩
  rintro i m σ2 H2 ⟨rfl, hi, ρ2, ⟨S2, F2, b2, x2⟩, pn2, q2⟩
  obtain ⟨go, stop⟩ := it S2 H2 i b2 x2.sub
  by_cases hlt : i < ds.length
  · obtain ⟨g1, g2⟩ := go ds[i] (List.getElem?_eq_getElem hlt)
    refine .inr ⟨g1, fun σ' H' => ∃ ρ', Sta own B1 X.K ρ' σ' H' ∧ Pin ol.P σ' ∧ SEnd X.K X.mg W own ol B1 D (forL tf b (ds.drop (i + 1)) ρ'), fun σ' H' ⟨ρ', y, z⟩ => ⟨ds.length - (i + 1), by omega, rfl, hlt, ρ', y, z⟩, fun v H3 y => ?_⟩
    obtain ⟨s3, r3⟩ := g2 v H3 y
    rw [List.drop_eq_getElem_cons hlt] at q2
    unfold forL at q2
    cases e : tf ds[i] ρ2 with
    | none => rw [e] at q2; exact q2.elim
    | some ρ3 =>
      rw [e] at q2
      simp only at q2
      refine tk _ _ ρ2 σ2 H3 v _ ρ3 (x2.grow s3 (A := []) (fun _ z => nomatch z)) r3 e _ fun σ4 x4 k4 _ => ?_
      refine ⟨B1, ρ3, ⟨_, _, b2.trans (ext_s []), x4⟩, pn2.keep fun j hj => k4 j fun m => hj (hpn j m), ?_⟩
      cases eb : b ρ3 with
      | nx ρ5 => rw [eb] at q2; exact fun σ' H' z pz => ⟨ρ5, z, pz, q2⟩
      | ct ρ5 => rw [eb] at q2; exact fun σ' H' z pz => ⟨ρ5, z, pz, q2⟩
      | bk ρ5 => rw [eb] at q2; exact q2
      | rt d => rw [eb] at q2; exact q2
      | rb d ρ5 => rw [eb] at q2; exact q2
      | st => rw [eb] at q2; exact q2
      | ex c ρ5 => rw [eb] at q2; exact q2
  · have e : i = ds.length := by omega
    subst e
    rw [List.drop_length] at q2
    exact .inl ⟨stop (Nat.le_refl _), q2 σ2 H2 ⟨S2, F2, b2, x2⟩ pn2⟩

/-! ### while -/
def whileL (t : Env → R Bool) (b : Env → Sr) : Nat → Env → Sr
  | 0, _ => .st
  | n + 1, ρ => bindS (t ρ) ρ fun c => if c = true then (match b ρ with
      | .nx ρ2 => whileL t b n ρ2
      | .ct ρ2 => whileL t b n ρ2
      | .bk ρ2 => .nx ρ2
      | r => r) else .nx ρ
open Classical in
noncomputable def whileS (t : Env → R Bool) (b : Env → Sr) (ρ : Env) : Sr := if h : ∃ n, whileL t b n ρ ≠ .st then whileL t b (Classical.choose h) ρ else .st
theorem whileL_more {t : Env → R Bool} {b : Env → Sr} : ∀ {n : Nat} {ρ : Env}, whileL t b n ρ ≠ .st → ∀ k, whileL t b (n + k) ρ = whileL t b n ρ
  | 0, ρ, h, k => absurd rfl h
  | n + 1, ρ, h, k => by
    rw [Nat.add_right_comm]
    unfold whileL at h ⊢
    cases e : t ρ with
    | ok c =>
      rw [e] at h
      simp only [bindS_ok] at h ⊢
      cases c with
      | false => rfl
      | true =>
        rw [if_pos rfl] at h ⊢
        cases eb : b ρ with
        | nx ρ2 => rw [eb] at h; exact whileL_more h k
        | ct ρ2 => rw [eb] at h; exact whileL_more h k
        | _ => rfl
    | _ => rfl
theorem whileS_eq {t : Env → R Bool} {b : Env → Sr} {n : Nat} {ρ : Env} (h : whileL t b n ρ ≠ .st) : whileS t b ρ = whileL t b n ρ := by
  have hx : ∃ n, whileL t b n ρ ≠ .st := ⟨n, h⟩
  unfold whileS
  rw [dif_pos hx]
  have h2 := Classical.choose_spec hx
  generalize Classical.choose hx = m at h2
  have a1 := whileL_more h m
  have a2 := whileL_more h2 n
  rw [Nat.add_comm] at a2
  exact a2.symm.trans a1
theorem vs_while {c : Expr} {t : Env → R Bool} (hp : PassesOwn (model X.prog X.w) X.A X.env X.xe) (hc : VT X W c t) (hb : VSs X W own own { ol with l := own } body b) (we : ∀ i ∈ ol.e, i ∈ own := by first | decide | (dsimp only; decide)) : VS X W own own ol (.While c body [] pos) (whileS t b) := ⟨psW (ps_while hp hc.pt hb.ps) fun D σ H ⟨B, ρ, x, pn, q⟩ => by
  unfold whileS at q
  split at q
  · rename_i h
    generalize Classical.choose h = n at q
    refine ⟨fun m σ H => ∃ ρ, Sta own B X.K ρ σ H ∧ Pin ol.P σ ∧ SEnd X.K X.mg W own ol B D (whileL t b m ρ), ⟨n, ρ, x, pn, q⟩, fun m σ2 H2 ⟨ρ2, x2, pn2, q2⟩ => ?_⟩
    cases m with
    | zero => exact q2.elim
    | succ m =>
      unfold whileL at q2
      refine ⟨ρ2, x2.env, (SEnd.out x2 pn2 we q2).mono fun k _ q3 H3 s3 => ?_⟩
      cases k with
      | false => exact q3 σ2 H3 (x2.grow s3) pn2
      | true =>
        refine ⟨fun σ' H' => ∃ ρ', Sta own B X.K ρ' σ' H' ∧ Pin ol.P σ' ∧ SEnd X.K X.mg W own ol B D (whileL t b m ρ'), fun σ' H' ⟨ρ', y, z⟩ => ⟨m, Nat.lt_succ_self _, ρ', y, z⟩, B, ρ2, x2.grow s3, pn2, ?_⟩
        rw [if_pos rfl] at q3
        cases eb : b ρ2 with
        | nx ρ5 => rw [eb] at q3; exact fun σ' H' z pz => ⟨ρ5, z, pz, q3⟩
        | ct ρ5 => rw [eb] at q3; exact fun σ' H' z pz => ⟨ρ5, z, pz, q3⟩
        | bk ρ5 => rw [eb] at q3; exact q3
        | rt d => rw [eb] at q3; exact q3
        | rb d ρ5 => rw [eb] at q3; exact q3
        | st => rw [eb] at q3; exact q3
        | ex c ρ5 => rw [eb] at q3; exact q3
  · exact q.elim⟩
end

/-! ### comprehensions -/
def wipeD (ρ : Env) : List Nat → Env
  | [] => ρ
  | v :: vs => (wipeD ρ vs).set v none
theorem wipeD_some {ρ : Env} {i : Nat} {x : D} : ∀ {vs : List Nat}, (wipeD ρ vs)[i]? = some (some x) → ρ[i]? = some (some x) ∧ i ∉ vs
  | [], h => ⟨h, by simp⟩
  | v :: vs, h => by
    unfold wipeD at h
    rcases get_set h with ⟨_, e, _⟩ | ⟨ne, h⟩
    · cases e
    · obtain ⟨h1, h2⟩ := wipeD_some h
      exact ⟨h1, by simp only [List.mem_cons, not_or]; exact ⟨ne, h2⟩⟩
theorem wipeD_length (ρ : Env) : ∀ vs : List Nat, (wipeD ρ vs).length = ρ.length
  | [] => rfl
  | v :: vs => by unfold wipeD; rw [List.length_set, wipeD_length ρ vs]
theorem wipe_eq {σ τ : L2.St} (hl : σ.length = τ.length) : ∀ {vs : List Nat}, (∀ k, k ∉ vs → σ[k]? = τ[k]?) → wipe σ vs = wipe τ vs := by
  intro vs h
  have in_ : ∀ (σ : L2.St) (vs : List Nat) (k : Nat), k ∈ vs → k < σ.length → (wipe σ vs)[k]? = some none := by
    intro σ vs
    induction vs with
    | nil => intro k hk; cases hk
    | cons v vs ih =>
      intro k hk hl
      unfold wipe
      by_cases e : v = k
      · subst e
        rw [List.getElem?_set_self (by rw [wipe_length]; exact hl)]
      · rw [List.getElem?_set_ne e]
        exact ih k ((List.mem_cons.mp hk).resolve_left (Ne.symm e)) hl
  apply List.ext_getElem?
  intro k
  by_cases hk : k ∈ vs
  · by_cases hlt : k < σ.length
    · rw [in_ σ vs k hk hlt, in_ τ vs k hk (by omega)]
    · rw [List.getElem?_eq_none (by rw [wipe_length]; omega), List.getElem?_eq_none (by rw [wipe_length]; omega)]
  · rw [wipe_out hk, wipe_out hk, h k hk]
theorem wipe_wipe (σ : L2.St) (vs : List Nat) : wipe (wipe σ vs) vs = wipe σ vs := wipe_eq (wipe_length σ vs) fun k hk => wipe_out hk
/-- nothing raised -/
def nox {α : Type} : R α → R α
  | .ex _ => .st
  | r => r
def lcL (vs : List Nat) (tf : D → Env → Option Env) (t : Env → R Bool) (f : Env → R D) (ρ : Env) : List D → R (List D)
  | [] => .ok []
  | d :: ds => match tf d (wipeD ρ vs) with
    | none => .st
    | some ρ1 => (nox (t ρ1)).bind fun c => if c = true then (nox (f ρ1)).bind fun y => (lcL vs tf t f ρ ds).bind fun r => .ok (y :: r) else lcL vs tf t f ρ ds
def lcE (vs : List Nat) (fi : Env → R (List D)) (tf : D → Env → Option Env) (t : Env → R Bool) (f : Env → R D) (ρ : Env) : R D := (fi ρ).bind fun ds => if ds.length ≤ sizeLine then (lcL vs tf t f ρ ds).bind fun r => .ok (.lst r) else .st
def yesT (_ : Env) : R Bool := .ok true
theorem nox_out {α : Type} {mg : Str → Option Value} {σ : L2.St} {H : Hp} {r : R α} {a : α} {P : α → Prop} (h : nox r = .ok a) (p : P a) : Out mg (fun _ _ _ _ => False) σ H r P := by
  cases r with
  | ok b => cases h; exact p
  | ex c => cases h
  | st => cases h
theorem REnv.stx {K : PySem.W.Frag} {ρ : Env} {σ : L2.St} {H : Hp} (h : REnv K ρ σ H) : Stx [] K H (fun _ => []) ρ σ H :=
  ⟨h.len, Same.refl H, fun _ _ e _ => e, fun i d q => let ⟨v, h1, h2⟩ := h.val i d q; ⟨v, h1, (fun z => nomatch z), fun _ => h2⟩, (fun _ z => nomatch z), (fun _ z => nomatch z)⟩
theorem REnv.wipe {K : PySem.W.Frag} {ρ : Env} {σ : L2.St} {H : Hp} (h : REnv K ρ σ H) (vs : List Nat) : REnv K (wipeD ρ vs) (L2.wipe σ vs) H := ⟨by rw [wipeD_length, wipe_length]; exact h.len, fun i d q => by
  obtain ⟨q1, q2⟩ := wipeD_some q
  obtain ⟨v, h1, h2⟩ := h.val i d q1
  exact ⟨v, (wipe_out q2).trans h1, h2⟩⟩
theorem nox_ne {α : Type} {r : R α} {c : Str} : nox r ≠ .ex c := fun h => by
  cases r with
  | ok a => cases h
  | st => cases h
  | ex d => cases h
theorem lcL_nx {vs : List Nat} {tf : D → Env → Option Env} {t : Env → R Bool} {f : Env → R D} {ρ : Env} : ∀ (ds : List D) (c : Str), lcL vs tf t f ρ ds ≠ .ex c
  | [], c, h => by cases h
  | d :: ds, c, h => by
    unfold lcL at h
    cases e : tf d (wipeD ρ vs) with
    | none => rw [e] at h; cases h
    | some ρ1 =>
      rw [e] at h
      simp only at h
      cases e1 : nox (t ρ1) with
      | ok k =>
        rw [e1, R.bind_ok] at h
        cases k with
        | true =>
          rw [if_pos rfl] at h
          cases e2 : nox (f ρ1) with
          | ok y =>
            rw [e2, R.bind_ok] at h
            cases e3 : lcL vs tf t f ρ ds with
            | ok r => rw [e3] at h; cases h
            | st => rw [e3] at h; cases h
            | ex c => exact lcL_nx ds c e3
          | st => rw [e2] at h; cases h
          | ex c => exact nox_ne e2
        | false =>
          rw [if_neg Bool.false_ne_true] at h
          exact lcL_nx ds c h
      | st => rw [e1] at h; cases h
      | ex c => exact nox_ne e1
section
variable {X : Cx} {W : WX} {own slots vs : List Nat} {tg : Expr} {fi : Env → R (List D)} {tf : D → Env → Option Env} {t : Env → R Bool} {f : Env → R D} {wi : TI} {g : TG} {tt : TT} {te : TE}
/-- the reading of a comprehension whose elements are new -/
theorem tLc_of {K : PySem.W.Frag} {mg : Str → Option Value} (hK : X.K = K) (hmg : X.mg = mg) (hg : TgOk X [] slots g tf) (hv : ∀ k ∈ slots, k ∈ vs) {σ : L2.St} {H : Hp} {Q : VK} (h : tG K mg W (lcE vs fi tf t f) σ H Q) :
    tLc (tI K mg W [] fi) g (tT K mg (fun _ _ _ _ => False) t) (tG K mg (fun _ _ _ _ => False) f) vs σ H Q := by
  subst hK
  subst hmg
  obtain ⟨ρ, re, o⟩ := h
  refine ⟨ρ, H, fun _ => [], re.stx, (Out.bind o).mono fun ds _ q J H1 A s1 n1 it D hD => ?_⟩
  by_cases hz : ds.length ≤ sizeLine
  rotate_left
  · rw [if_neg hz] at q; exact q.elim
  rw [if_pos hz] at q
  have it : IterOk X.K J (ext H H1 A) ds := it
  have re1 : REnv X.K ρ σ H1 := re.mono s1
  -- the invariant
  refine ⟨fun i m H2 => m = ds.length - i ∧ i ≤ ds.length ∧ ∃ acc ys B, Same H1 H2 ∧ H2 D = some (.lst acc) ∧ Fus X.K H2 acc ys B ∧ D ∉ B ∧ (∀ a ∈ B, H1 a = none) ∧ acc.length ≤ i ∧
      ∃ r, lcL vs tf t f ρ (ds.drop i) = .ok r ∧ ∀ v H' A, Same H H' → Fu X.K H' v (.lst (ys ++ r)) A → (∀ a ∈ A, H a = none) → Q v H', ⟨ds.length, by simp, Nat.zero_le _, [], [], [], new_same hD, upd_same, .nil, (fun z => nomatch z), (fun _ z => nomatch z), Nat.le_refl _, ?_⟩, ?_⟩
  · cases e : lcL vs tf t f ρ ds with
    | ok r => rw [e] at q; exact ⟨r, by rw [List.drop_zero]; exact e, q⟩
    | st => rw [e] at q; exact q.elim
    | ex c =>
      exfalso
      exact lcL_nx ds c e
  · rintro i m H2 ⟨rfl, hi, acc, ys, B, s2, hL, fu, nD, nB, hacc, r, hr, q⟩
    have sx : Same (ext H H1 A) H1 := ext_h s1 A
    have sE : Same (ext H H1 A) (ext (ext H H1 A) H2 []) := ext_s []
    have sF : Same (ext (ext H H1 A) H2 []) H2 := ext_h (sx.trans s2) []
    obtain ⟨go, stop⟩ := it _ H2 i sE sF
    by_cases hlt : i < ds.length
    · obtain ⟨g1, g2⟩ := go ds[i] (List.getElem?_eq_getElem hlt)
      refine .inr ⟨g1, fun H' => ∃ acc ys B, Same H1 H' ∧ H' D = some (.lst acc) ∧ Fus X.K H' acc ys B ∧ D ∉ B ∧ (∀ a ∈ B, H1 a = none) ∧ acc.length ≤ i + 1 ∧
        ∃ r, lcL vs tf t f ρ (ds.drop (i + 1)) = .ok r ∧ ∀ v H' A, Same H H' → Fu X.K H' v (.lst (ys ++ r)) A → (∀ a ∈ A, H a = none) → Q v H', fun H' y => ⟨ds.length - (i + 1), by omega, rfl, hlt, y⟩, fun x H3 y => ?_⟩
      obtain ⟨s3, r3⟩ := g2 x H3 y
      rw [List.drop_eq_getElem_cons hlt] at hr
      unfold lcL at hr
      cases e : tf ds[i] (wipeD ρ vs) with
      | none => rw [e] at hr; cases hr
      | some ρ1 =>
        rw [e] at hr
        simp only at hr
        have re3 := ((re1.mono s2).mono s3).wipe vs
        have rx : Rd X.K H3 x ds[i] := r3.mono (ext_h (sF.trans s3) [])
        refine hg H3 (fun _ => []) (wipeD ρ vs) (wipe σ vs) H3 x _ ρ1 re3.stx rx e _ fun σ4 x4 k4 l4 => ⟨?_, ?_⟩
        · rw [wipe_eq (τ := wipe σ vs) l4 fun k hk => k4 k fun z => hk (hv k z), wipe_wipe]
        · have re4 := x4.env
          cases et : nox (t ρ1) with
          | st => rw [et] at hr; cases hr
          | ex c => rw [et] at hr; cases hr
          | ok k =>
            rw [et, R.bind_ok] at hr
            refine ⟨ρ1, re4, nox_out et fun H5 s5 => ?_⟩
            cases k with
            | false =>
              rw [if_neg Bool.false_ne_true] at hr ⊢
              exact ⟨acc, ys, B, (s2.trans s3).trans s5, s5 _ _ (s3 _ _ hL), fu.same (s3.trans s5), nD, nB, Nat.le_succ_of_le hacc, r, hr, q⟩
            | true =>
              rw [if_pos rfl] at hr ⊢
              cases ef : nox (f ρ1) with
              | st => rw [ef] at hr; cases hr
              | ex c => rw [ef] at hr; cases hr
              | ok y =>
                rw [ef, R.bind_ok] at hr
                cases er : lcL vs tf t f ρ (ds.drop (i + 1)) with
                | st => rw [er] at hr; cases hr
                | ex c => rw [er] at hr; cases hr
                | ok r' =>
                  rw [er, R.bind_ok] at hr
                  cases hr
                  refine ⟨ρ1, re4.mono s5, nox_out ef fun v H6 C s6 f6 n6 => ?_⟩
                  have sA : Same H2 H6 := (s3.trans s5).trans s6
                  have hD6 : H6 D = some (.lst acc) := sA _ _ hL
                  have nDC : D ∉ C := fun z => by
                    have := n6 D z
                    rw [s5 _ _ (s3 _ _ hL)] at this
                    cases this
                  have f1 : Fus X.K H6 (acc ++ [v]) (ys ++ [y]) (B ++ (C ++ [])) := (fu.same sA).app (.cons f6 .nil fun _ _ z => nomatch z) fun a ha hb => by
                    rw [List.append_nil] at hb
                    obtain ⟨o, ho⟩ := fu.there a ha
                    have := n6 a hb
                    rw [s5 _ _ (s3 _ _ ho)] at this
                    cases this
                  have nD' : D ∉ B ++ (C ++ []) := fun z => by
                    rw [List.append_nil] at z
                    exact (List.mem_append.mp z).elim nD nDC
                  refine ⟨acc, hD6, Nat.lt_of_le_of_lt hacc (Nat.lt_of_lt_of_le hlt hz), acc ++ [v], ys ++ [y], B ++ (C ++ []), fun b o hb => ?_, upd_same, f1.at (fun a ha => upd_ne fun z => nD' (z ▸ ha)) (fun b ot st hq => ?_), nD', fun a ha => ?_, ?_, r', rfl, ?_⟩
                  · rw [upd_ne (ne_of_none hb hD)]
                    exact s6 _ _ (s5 _ _ (s3 _ _ (s2 _ _ hb)))
                  · rw [upd_ne (fun z => by rw [z, hD6] at hq; cases hq; exact st)]
                    exact hq
                  · rw [List.append_nil] at ha
                    rcases List.mem_append.mp ha with z | z
                    · exact nB a z
                    · exact ((s2.trans s3).trans s5).free (n6 a z)
                  · rw [List.length_append, List.length_singleton]; omega
                  · rw [List.append_assoc]; exact q
    · have e : i = ds.length := by omega
      subst e
      rw [List.drop_length] at hr
      cases hr
      refine .inl ⟨stop (Nat.le_refl _), q _ H2 (D :: B) (s1.trans s2) (by rw [List.append_nil]; exact .lst hL fu nD) fun a ha => ?_⟩
      rcases List.mem_cons.mp ha with z | z
      · rw [z]; exact s1.free hD
      · exact s1.free (nB a z)
end
end Vs

namespace Vs
open PySem PySem.Spec PyProof.Rows L2

/-! ### comprehensions as rules -/
abbrev W0 : WX := fun _ _ _ _ => False
structure VTs (X : Cx) (W : WX) (ifs : List Expr) (t : Env → R Bool) : Prop where
  pts : PTs X ifs (tT X.K X.mg W t)
section
variable {X : Cx} {W : WX} {t : Env → R Bool}
theorem ptsW {X : Cx} {e : List Expr} {t u : TT} (h : PTs X e t) (q : ∀ σ H Q, u σ H Q → t σ H Q) : PTs X e u := ⟨fun pins s σ H Q I x => h.run pins s σ H Q I (q σ H Q x)⟩
theorem vts_nil : VTs X W [] yesT := ⟨ptsW pts_nil fun σ H Q ⟨ρ, re, o⟩ => o H (Same.refl H)⟩
theorem vts_one {c : Expr} (h : VT X W c t) : VTs X W [c] t := ⟨pts_one h.pt⟩
end
section
variable {X : Cx} {W : WX} {own0 : List Nat} {ol : Ol} {elt tg iter : Expr} {ifs : List Expr} {scope : Scope} {own : List (Str × Nat)} {slots : List Nat} {pos spos : Pos} {fi : Env → R (List D)} {tf : D → Env → Option Env} {t : Env → R Bool} {f : Env → R D} {g : TG}
theorem vg_lc (hc : X.calm = true) (hN : X.N.Nodup) (hi : VI X W [] tg iter fi) (ok : BlkOk X.N X.env.scope scope own) (tk : TgOk X [] slots g tf)
    (hg : ∀ (s : Shared) (H : Hp) (C : Addr) (cl : List (Str × Addr)) (fp : List Addr), PG (X.blk s H scope (compEnvC scope cl C X.env) fp) tg g)
    (ht : ∀ (s : Shared) (H : Hp) (C : Addr) (cl : List (Str × Addr)) (fp : List Addr), VTs (X.blk s H scope (compEnvC scope cl C X.env) fp) W0 ifs t)
    (he : ∀ (s : Shared) (H : Hp) (C : Addr) (cl : List (Str × Addr)) (fp : List Addr), VG (X.blk s H scope (compEnvC scope cl C X.env) fp) W0 elt f)
    (hv : ∀ k ∈ slots, k ∈ own.map (·.2) := by decide) (hs : ∀ x, foldedSetIterable iter X.env x = pure x := by intro _; rfl) : VG X W (.ListComp elt [⟨tg, iter, ifs, 0⟩] scope pos) (lcE (own.map (·.2)) fi tf t f) :=
  ⟨peW (pe_lc (tt := tT X.K X.mg W0 t) (te := tG X.K X.mg W0 f) hc hN hi.pi ok hg (fun s H C cl fp => (ht s H C cl fp).pts) (fun s H C cl fp => (he s H C cl fp).pe) hs) fun σ H Q q => tLc_of rfl rfl tk hv q⟩
theorem vs_setLc (i : Nat) {y : Str} {py : Pos} (hc : X.calm = true) (hN : X.N.Nodup) (hy : X.N[i]? = some y) (hyl : X.env.scope.names.lookup y = some .local) (hsw : swapsWith (.ListComp elt [⟨tg, iter, ifs, 0⟩] scope pos) (some (.Name y py)) spos.line X.env = pure true)
    (hi : VI X W [] tg iter fi) (ok : BlkOk X.N X.env.scope scope own) (tk : TgOk X [] slots g tf)
    (hg : ∀ (s : Shared) (H : Hp) (C : Addr) (cl : List (Str × Addr)) (fp : List Addr), PG (X.blk s H scope (compEnvC scope cl C X.env) fp) tg g)
    (ht : ∀ (s : Shared) (H : Hp) (C : Addr) (cl : List (Str × Addr)) (fp : List Addr), VTs (X.blk s H scope (compEnvC scope cl C X.env) fp) W0 ifs t)
    (he : ∀ (s : Shared) (H : Hp) (C : Addr) (cl : List (Str × Addr)) (fp : List Addr), VG (X.blk s H scope (compEnvC scope cl C X.env) fp) W0 elt f)
    (hv : ∀ k ∈ slots, k ∈ own.map (·.2) := by decide) (hs : ∀ x, foldedSetIterable iter X.env x = pure x := by intro _; rfl) (we : ∀ i ∈ ol.e, i ∈ own0 := by first | decide | (dsimp only; decide)) (hp : ol.P i = none := by rfl) : VS X W own0 (i :: own0) ol (.Assign [.Name y py] (.ListComp elt [⟨tg, iter, ifs, 0⟩] scope pos) spos) (asgS i (lcE (own.map (·.2)) fi tf t f)) :=
  ⟨psW (ps_setLc (i := i) (tt := tT X.K X.mg W0 t) (te := tG X.K X.mg W0 f) hc hN hy hyl hsw hi.pi ok hg (fun s H C cl fp => (ht s H C cl fp).pts) (fun s H C cl fp => (he s H C cl fp).pe) hs) fun D σ H ⟨B, ρ, x, pn, q⟩ => tLc_of rfl rfl tk hv ⟨ρ, x.env, (SEnd.out x pn we q).mono fun d _ q v H' A s fu n => by
    obtain ⟨S, F, b, y⟩ := x
    exact q _ _ ⟨_, _, b.trans (ext_s []), y.put s fu n i⟩ (pn.set hp)⟩⟩
/-- the target's part of a comprehension -/
theorem tk_name {X : Cx} {own : List Nat} (i : Nat) (hi : i ∉ own := by decide) : TgOk X own [i] (gName i) (tgN i) := fun S F ρ σ H v d ρ' st r e Q q => by
  cases e
  refine q _ (st.lay hi r) (fun k hk => ?_) (by rw [List.length_set])
  rw [List.getElem?_set_ne fun e => hk (List.mem_singleton.mpr e.symm)]
theorem tk_tup {X : Cx} {own : List Nat} (i j : Nat) (hi : i ∉ own := by decide) (hj : j ∉ own := by decide) : TgOk X own [i, j] (gTup X.K 2 (gCons (gName i) (gCons (gName j) gNil))) (tgT i j) := fun S F ρ σ H v d ρ' st r e Q q => by
  unfold tgT at e
  split at e
  · cases e
    cases r with
    | tup h r =>
      obtain ⟨v, w, rfl, h1, h2⟩ := rds2 r
      refine ⟨_, _, rfl, (seqT st.sub h).sq, rfl, v, [w], rfl, w, [], rfl, rfl, ?_⟩
      refine q _ ((st.lay hi h1).lay hj h2) (fun k hk => ?_) (by rw [List.length_set, List.length_set])
      rw [List.getElem?_set_ne fun e => hk (by simp [e]), List.getElem?_set_ne fun e => hk (by simp [e])]
  · cases e
end

/-! ### what changes a list in place -/
section
variable {K : PySem.W.Frag} {S H H' : Hp} {own : List Nat} {F : Nat → List Addr} {ρ : Env} {σ : L2.St} {q p : Addr} {o' : HO}
theorem upd_stt {q : Addr} {o' o : HO} (hq : ∃ o, H q = some o ∧ ¬ Stt o) {b : Addr} (s : Stt o) (h : H b = some o) : upd H q o' b = some o := by
  obtain ⟨u, e, n⟩ := hq
  rw [upd_ne (fun z => by rw [z, e] at h; cases h; exact n s)]
  exact h
theorem upd_seqT (hq : ∃ o, H q = some o ∧ ¬ Stt o) {b : Addr} {xs : List V} (h : TpT K H b xs) : TpT K (upd H q o') b xs := by
  obtain ⟨o, ho, ns⟩ := hq
  refine h.imp (fun h => ?_) id
  rw [upd_ne (fun z => by rw [z, ho] at h; cases h; exact ns trivial)]
  exact h
/-- slot i's data is changed at q -/
theorem Stx.mut (st : Stx own K S F ρ σ H) {i : Nat} {v : V} {d' : D} {A : List Addr} (hi : i ∈ own) (hv : σ[i]? = some (some v)) (hq : ∃ o, H q = some o ∧ ¬ Stt o) (hS : S q = none) (hF : ∀ j ∈ own, j ≠ i → q ∉ F j) (ns : ¬ Stt o')
    (f : Fu K (upd H q o') v d' A) (hA : ∀ a ∈ A, S a = none ∧ ∀ j ∈ own, j ≠ i → a ∉ F j) :
    Stx own K S (fun j => if j = i then A else F j) (ρ.set i (some d')) σ (upd H q o') := by
  refine ⟨by rw [List.length_set]; exact st.len, fun b o e => ?_, fun a o e t => ?_, fun j e w => ?_, fun j m a ha => ?_, fun j mj k mk ne a ha => ?_⟩
  · rw [upd_ne (fun z => by rw [z, hS] at e; cases e)]
    exact st.sub b o e
  · by_cases z : a = q
    · rw [z, upd_same] at e
      cases e
      exact absurd t ns
    · rw [upd_ne z] at e
      exact st.cl a o e t
  · rcases get_set w with ⟨rfl, e1, hl⟩ | ⟨ne, w⟩
    · cases e1
      refine ⟨v, hv, fun _ => ?_, fun m => absurd hi m⟩
      rw [if_pos rfl]
      exact f
    · obtain ⟨u, h1, h2, h3⟩ := st.val j e w
      refine ⟨u, h1, fun m => ?_, h3⟩
      rw [if_neg ne]
      exact (h2 m).at (fun a ha => upd_ne fun (z : a = q) => hF j m ne (z ▸ ha)) fun b o st hs => upd_stt hq st hs
  · by_cases e : j = i
    · rw [if_pos e] at ha
      exact ⟨(hA a ha).1, f.soft a ha⟩
    · rw [if_neg e] at ha
      obtain ⟨h1, o, h2, h3⟩ := st.out j m a ha
      refine ⟨h1, o, ?_, h3⟩
      rw [upd_ne fun (z : a = q) => hF j m e (z ▸ ha)]
      exact h2
  · intro hk
    by_cases ej : j = i
    · rw [if_pos ej] at ha
      have ek : k ≠ i := fun z => ne (ej.trans z.symm)
      rw [if_neg ek] at hk
      exact (hA a ha).2 k mk ek hk
    · rw [if_neg ej] at ha
      by_cases ek : k = i
      · rw [if_pos ek] at hk
        exact (hA a hk).2 j mj ej ha
      · rw [if_neg ek] at hk
        exact st.dis j mj k mk ne a ha hk
/-- what was made since is nobody's -/
theorem Stx.fresh (st : Stx own K S F ρ σ H) (s : Same H H') {v : V} {d : D} {A : List Addr} (f : Fu K H' v d A) (n : ∀ a ∈ A, H a = none) : ∀ a ∈ A, ext S H' [] a = none ∧ ∀ j ∈ own, a ∉ F j := fun a ha => by
  obtain ⟨o, h1, h2⟩ := f.soft a ha
  refine ⟨ext_none (st.sub.free (n a ha)) (fun z => nomatch z) (fun o' e => by rw [h1] at e; cases e; exact h2), fun j m z => ?_⟩
  obtain ⟨_, o2, h3, _⟩ := st.out j m a z
  rw [n a ha] at h3
  cases h3
/-- a list of its own: its address and what stands there -/
theorem Fu.list {v : V} {ds : List D} {A : List Addr} (f : Fu K H v (.lst ds) A) : ∃ p vs A', v = .ref p ∧ A = p :: A' ∧ H p = some (.lst vs) ∧ Fus K H vs ds A' ∧ p ∉ A' := by
  cases f with
  | lst h r n => exact ⟨_, _, _, rfl, rfl, h, r, n⟩
/-- the same list with other items -/
theorem fu_relist {vs' : List V} {ds' : List D} {A' : List Addr} (hp : ∃ o, H p = some o ∧ ¬ Stt o) (r : Fus K H vs' ds' A') (n : p ∉ A') : Fu K (upd H p (.lst vs')) (.ref p) (.lst ds') (p :: A') :=
  .lst upd_same (r.at (fun a ha => upd_ne fun z => n (z ▸ ha)) fun b o st hs => upd_stt hp st hs) n
end

def appS (i : Nat) (f : Env → R D) (ρ : Env) : Sr := match ρ[i]? with
  | some (some (.lst ds)) => bindS (f ρ) ρ fun d => if ds.length < sizeLine then .nx (ρ.set i (some (.lst (ds ++ [d])))) else .st
  | _ => .st
def setS (i : Nat) (fk fe : Env → R D) (ρ : Env) : Sr := bindS (fe ρ) ρ fun d => match ρ[i]? with
  | some (some (.lst ds)) => bindS (fk ρ) ρ fun k => match k with
    | .int n => (match ixN ds.length n with
      | some j => .nx (ρ.set i (some (.lst (ds.set j d))))
      | none => .st)
    | _ => .st
  | _ => .st
def clearS (i : Nat) (ρ : Env) : Sr := match ρ[i]? with
  | some (some (.lst _)) => .nx (ρ.set i (some (.lst [])))
  | _ => .st
section
variable {X : Cx} {W : WX} {own own' : List Nat} {ol : Ol} {st : Stmt} {f fk fe : Env → R D}
theorem vs_append (i : Nat) (p : PS X st (tDrop (tBM X.K "list" rAppend (tVar i) (tCons (tG X.K X.mg W f) tNil)))) (hi : i ∈ own := by decide) (we : ∀ i ∈ ol.e, i ∈ own := by first | decide | (dsimp only; decide)) : VS X W own own ol st (appS i f) := ⟨psW p fun D σ H ⟨B, ρ, x, pn, q⟩ => by
  unfold appS at q
  split at q
  · rename_i ds ei
    have q := SEnd.out x pn we q
    obtain ⟨S, F, b, y⟩ := x
    obtain ⟨v, h1, h2, _⟩ := y.val i _ ei
    obtain ⟨pa, vs, A', rfl, eF, hp, r, n⟩ := (h2 hi).list
    refine ⟨_, h1, .inl ⟨rfl, _, .inl (.inl hp)⟩, ρ, y.env, q.mono fun d _ q w H1 C s1 f1 n1 => ?_⟩
    by_cases hz : ds.length < sizeLine
    rotate_left
    · rw [if_neg hz] at q; exact q.elim
    rw [if_pos hz] at q
    refine ⟨pa, vs, w, rfl, rfl, s1 _ _ hp, by rw [r.length]; exact hz, ?_⟩
    have y1 := y.grow s1 (A := []) (fun _ z => nomatch z)
    have mp : pa ∈ F i := by rw [eF]; exact List.mem_cons_self
    have fr := y.fresh s1 f1 n1
    have hpq : ∃ o, H1 pa = some o ∧ ¬ Stt o := ⟨_, s1 _ _ hp, fun z => (show False from z)⟩
    have nC : pa ∉ C := fun z => by have := n1 pa z; rw [hp] at this; cases this
    have r1 : Fus X.K H1 (vs ++ [w]) (ds ++ [d]) (A' ++ (C ++ [])) := (r.same s1).app (.cons f1 .nil fun _ _ z => nomatch z) fun a ha hb => by
      rw [List.append_nil] at hb
      exact (fr a hb).2 i hi (by rw [eF]; exact List.mem_cons_of_mem _ ha)
    rw [List.append_nil] at r1
    have n2 : pa ∉ A' ++ C := fun z => (List.mem_append.mp z).elim n nC
    refine q _ _ ⟨_, _, b.trans (ext_s []), y1.mut hi h1 hpq (y1.out i hi pa mp).1 (fun j m ne z => y.dis j m i hi ne pa z mp) (fun z => (show False from z)) (fu_relist hpq r1 n2) fun a ha => ?_⟩ pn
    have old : ∀ a, a ∈ F i → ext S H1 [] a = none ∧ ∀ j ∈ own, j ≠ i → a ∉ F j := fun a hm => ⟨(y1.out i hi a hm).1, fun j m ne z' => y.dis j m i hi ne a z' hm⟩
    rcases List.mem_cons.mp ha with z | z
    · rw [z]
      exact old pa mp
    · rcases List.mem_append.mp z with z | z
      · exact old a (by rw [eF]; exact List.mem_cons_of_mem _ z)
      · exact ⟨(fr a z).1, fun j m _ => (fr a z).2 j m⟩
  · exact q.elim⟩
theorem vs_clear (i : Nat) (p : PS X st (tDrop (tBM0 X.K "list" rClear (tVar i)))) (hi : i ∈ own := by decide) : VS X W own own ol st (clearS i) := ⟨psW p fun D σ H ⟨B, ρ, x, pn, q⟩ => by
  unfold clearS at q
  split at q
  · rename_i ds ei
    obtain ⟨S, F, b, y⟩ := x
    obtain ⟨v, h1, h2, _⟩ := y.val i _ ei
    obtain ⟨pa, vs, A', rfl, eF, hp, r, n⟩ := (h2 hi).list
    have mp : pa ∈ F i := by rw [eF]; exact List.mem_cons_self
    have hpq : ∃ o, H pa = some o ∧ ¬ Stt o := ⟨_, hp, fun z => (show False from z)⟩
    refine ⟨_, h1, .inl ⟨rfl, _, .inl (.inl hp)⟩, pa, vs, rfl, rfl, hp, ?_⟩
    refine q _ _ ⟨_, _, b, y.mut hi h1 hpq (y.out i hi pa mp).1 (fun j m ne z => y.dis j m i hi ne pa z mp) (fun z => (show False from z)) (fu_relist (A' := []) hpq .nil fun z => nomatch z) fun a ha => ?_⟩ pn
    rcases List.mem_cons.mp ha with z | z
    · rw [z]
      exact ⟨(y.out i hi pa mp).1, fun j m ne z' => y.dis j m i hi ne pa z' mp⟩
    · cases z
  · exact q.elim⟩
/-- x[k] = e -/
theorem vs_setItem (i : Nat) (p : PS X st (tAsg (tG X.K X.mg W fe) (gSub (tVar i) (tF X.K X.mg W fk) rSetL))) (hi : i ∈ own := by decide) (we : ∀ i ∈ ol.e, i ∈ own := by first | decide | (dsimp only; decide)) : VS X W own own ol st (setS i fk fe) := ⟨psW p fun D σ H ⟨B, ρ, x, pn, q⟩ => by
  unfold setS at q
  have q := SEnd.out x pn we q
  obtain ⟨S, F, b, y⟩ := x
  refine ⟨ρ, y.env, q.mono fun d _ q w H1 C s1 f1 n1 => ?_⟩
  split at q
  · rename_i ds ei
    have y1 := y.grow s1 (A := []) (fun _ z => nomatch z)
    have fr := y.fresh s1 f1 n1
    have q := SEnd.out (own' := own) (σ := σ) (H := H1) ⟨_, _, b.trans (ext_s []), y1⟩ pn we q
    obtain ⟨v, h1, h2, _⟩ := y1.val i _ ei
    obtain ⟨pa, vs, A', rfl, eF, hp, r, n⟩ := (h2 hi).list
    refine ⟨_, h1, ρ, y1.env, q.mono fun k _ q kv H2 s2 rk => ?_⟩
    split at q
    · rename_i kn hkn
      split at q
      · rename_i jj ej
        cases rk
        have y2 := y1.grow s2 (A := []) (fun _ z => nomatch z)
        have mp : pa ∈ F i := by rw [eF]; exact List.mem_cons_self
        have hpq : ∃ o, H2 pa = some o ∧ ¬ Stt o := ⟨_, s2 _ _ hp, fun z => (show False from z)⟩
        refine ⟨pa, vs, kn, jj, rfl, rfl, s2 _ _ hp, by rw [r.length]; exact ej, ?_⟩
        have f2 := f1.same s2
        have nF : ∀ a ∈ C, a ∉ A' := fun a ha z => (fr a ha).2 i hi (by rw [eF]; exact List.mem_cons_of_mem _ z)
        obtain ⟨A2, r2, k2⟩ := Fus.set (A := A') (ds := ds) (vs := vs) f2 (r.same s2) nF jj
        have nC : pa ∉ C := fun z => (fr pa z).2 i hi mp
        have n2 : pa ∉ A2 := fun z => (k2 pa z).elim n nC
        have old : ∀ a, a ∈ F i → ext (ext S H1 []) H2 [] a = none ∧ ∀ j ∈ own, j ≠ i → a ∉ F j := fun a hm => ⟨(y2.out i hi a hm).1, fun j m ne z' => y2.dis j m i hi ne a z' hm⟩
        refine q _ _ ⟨_, _, (b.trans (ext_s [])).trans (ext_s []), y2.mut hi h1 hpq (old pa mp).1 (old pa mp).2 (fun z => (show False from z)) (fu_relist hpq r2 n2) fun a ha => ?_⟩ pn
        rcases List.mem_cons.mp ha with z | z
        · rw [z]
          exact old pa mp
        · rcases k2 a z with z | z
          · exact old a (by rw [eF]; exact List.mem_cons_of_mem _ z)
          · refine ⟨ext_none (fr a z).1 (fun z => nomatch z) (fun o' e => ?_), fun j m _ => (fr a z).2 j m⟩
            obtain ⟨o, g1, g2⟩ := f2.soft a z
            rw [g1] at e; cases e; exact g2
      · exact q.elim
    · exact q.elim
  · exact q.elim⟩
end
end Vs

namespace Vs
open PySem PySem.Spec PyProof.Rows L2

/-! ### range with a step -/
def okRange (i j c : Int) : Prop := c ≠ 0 ∧ c.natAbs < 1073741824 ∧ Builtin.Range.small i j c = true
instance (i j c : Int) : Decidable (okRange i j c) := inferInstanceAs (Decidable (_ ∧ _))
def rngS : List D → R (List D)
  | [.int i, .int j, .int c] => if okRange i j c then .ok (rngC i c (Builtin.Range.rangeSize i j c).toNat) else .st
  | _ => .st
theorem rds3 {K : PySem.W.Frag} {H : Hp} {vs : List V} {d e f : D} (r : Rds K H vs [d, e, f]) : ∃ v w u, vs = [v, w, u] ∧ Rd K H v d ∧ Rd K H w e ∧ Rd K H u f := by
  cases r with
  | cons h r => cases r with
    | cons h2 r => cases r with
      | cons h3 r => cases r; exact ⟨_, _, _, rfl, h, h2, h3⟩
section
variable {X : Cx} {W : WX} {own own' : List Nat} {ol : Ol} {a b c tg : Expr} {fs : Env → R (List D)} {p pos : Pos}
theorem vi_rng3 (hg : Gl X "range") (hm : X.mg "range" = none) (ha : VA X W [a, b, c] fs) (hs : starEach [a, b, c] X.env = (false, eval a X.env) :: starEach [b, c] X.env := by rfl) (hpl : (backTo pos (starEach [b, c] X.env)).any (·.1) = false := by rfl) :
    VI X W own tg (.Call (.Name "range" p) [a, b, c] [] pos) (itR rngS fs) :=
  ⟨piW (pi_range3 hg hm ha.pa hs hpl) fun σ H Q ⟨ρ, S, F, st, o⟩ => ⟨ρ, st.env, (Out.bind o).mono fun ds _ q vs H' s r => by
    unfold rngS at q
    split at q
    · obtain ⟨v, w, u, rfl, h1, h2, h3⟩ := rds3 r
      split at q
      · rename_i c
        cases h1
        cases h2
        cases h3
        exact ⟨_, _, _, _, rfl, ⟨c.1, c.2.1, c.2.2, rangeSize_toNat _ _ _⟩, q _ H' [] s (fun _ z => nomatch z) (it_rngC _ _ _)⟩
      · exact q.elim
    · exact q.elim⟩⟩

/-! ### x += e -/
def augS (i : Nat) (g : D → D → R D) (f : Env → R D) (ρ : Env) : Sr := bindS (varE i ρ) ρ fun d => bindS (f ρ) ρ fun e => bindS (g d e) ρ fun z => .nx (ρ.set i (some z))
theorem vs_aug (i : Nat) {st : Stmt} {r : R2} {g : D → D → R D} {f : Env → R D} (p : PS X st (tAug i (tF X.K X.mg W f) r)) (k : OpD X r g) (n : NoEx2 g) (we : ∀ i ∈ ol.e, i ∈ own := by first | decide | (dsimp only; decide)) (hp : ol.P i = none := by rfl) : VS X W own (i :: own) ol st (augS i g f) := ⟨psW p fun D σ H ⟨B, ρ, x, pn, q⟩ => by
  unfold augS at q
  cases hv : varE i ρ with
  | st => rw [hv] at q; exact q.elim
  | ex c =>
    unfold varE at hv
    split at hv <;> cases hv
  | ok d =>
    rw [hv, bindS_ok] at q
    have q := SEnd.out x pn we q
    obtain ⟨S, F, b, y⟩ := x
    have e : ρ[i]? = some (some d) := by
      unfold varE at hv
      split at hv
      · rename_i e; cases hv; exact e
      · cases hv
    obtain ⟨v, h1, h2⟩ := y.env.val i d e
    refine ⟨v, h1, ρ, y.env, q.mono fun z _ q w H1 s1 r1 => ?_⟩
    cases hg : g d z with
    | st => rw [hg] at q; exact q.elim
    | ex c => exact absurd hg (n d z c)
    | ok u =>
      rw [hg, bindS_ok] at q
      refine k v w d z H1 _ u (h2.mono s1) r1 hg fun u' H2 A s2 f2 n2 => ?_
      exact q _ _ ⟨_, _, b.trans (ext_s []), y.put (s1.trans s2) f2 (fun a m => s1.free (n2 a m)) i⟩ (pn.set hp)⟩
/-- += of ints and texts -/
def rAddI : R2 := fun x y H Q => rI0 (fun i j => .int (i + j)) x y H Q ∨ ∃ i j, x = .str i ∧ y = .str j ∧ i.length + j.length ≤ sizeLine ∧ Q (.str (i ++ j)) H
theorem ip_addA : PIp X .Add rAddI := fun pins s σ H x y v u Q I rx ry h => (iop_add.or iop_add_str) pins s σ H x y v u Q I rx ry h
def addI : D → D → R D
  | .int i, .int j => .ok (.int (i + j))
  | .str x, .str y => if x.length + y.length ≤ sizeLine then .ok (.str (x ++ y)) else .st
  | _, _ => .st
theorem nx_addI : NoEx2 addI := fun d e c h => by unfold addI at h; split at h <;> first | cases h | (split at h <;> cases h)
theorem d_addI : OpD X rAddI addI := fun x y d e H Q z rx ry h q => by
  unfold addI at h
  split at h
  · cases h; cases rx; cases ry
    exact .inl ⟨_, _, rfl, rfl, q _ H [] (Same.refl H) (.int _) (fun _ h => nomatch h)⟩
  · split at h
    · rename_i c
      cases h; cases rx; cases ry
      exact .inr ⟨_, _, rfl, rfl, c, q _ H [] (Same.refl H) (.str _) (fun _ h => nomatch h)⟩
    · cases h
  · cases h
end

/-! ### the text's defs -/
/-- a def of the text, as the top left it -/
def Def (K : PySem.W.Frag) (mg : Str → Option Value) (x : Str) (st : Stmt) : Prop := ∃ f fd, Fun K x x st f fd ∧ mg x = some (.ref f)
/-- a def that keeps its promise -/
def Cal (P : Program) (w : World) (K : PySem.W.Frag) (mg : Str → Option Value) (base : Heap) (x : Str) (ps : List Str) (k : Nat) (m : List D → R D) : Prop :=
  ∃ f fd, mg x = some (.ref f) ∧ PySem.W.keepIn K (.ref f) = true ∧ Binds K fd ps [] ∧ FnOk P w K mg base (L2.CX P w) k f fd ps (spF K mg ps.length m)
section
variable {P : Program} {w : World} {K : PySem.W.Frag} {mg : Str → Option Value} {base : Heap}
theorem cal_mk {x : Str} {st : Stmt} {N ps : List Str} {k : Nat} {own' : List Nat} {b : Env → Sr} (F : Def K mg x st) (S : FnScope N ps (defScope st)) (hps : ps.length ≤ N.length)
    (hb : ∀ (kV doc pm : Value) (an : Option Addr) (cdv ct : Value) (us : List Value), us.length = ps.length → bindArgs (PySem.W.fnOf x x (defArgs st) (defBody st) (defScope st) .none kV doc pm an cdv ct) ⟨us, []⟩ = pure (ps.zip us))
    (hbody : ∀ (f : Addr) (cdv : Value) (A : Around) (outer : List PySem.Env) (s : Shared) (H : Hp) (E : XK), Room k (A.deeper (envOfC x (defScope st) s.heap.objs.size f cdv)) →
      VSs (cxOf (L2.CX P w) P w K mg base N x (defScope st) f cdv A outer s H E) (fun cls d _ H => E cls d H) [] own' nol (defBody st) b) :
    Cal P w K mg base x ps (k + 1) (runB N.length b) := by
  obtain ⟨f, fd, F, h⟩ := F
  exact ⟨f, fd, h, F.kp, F.binds hb, fn_ok F S hps (fun cdv A outer s H E hr => hbody f cdv A outer s H E hr)⟩
theorem vg_fn {X : Cx} {W : WX} {x : Str} {ps : List Str} {k k' : Nat} {m : List D → R D} {p pos : Pos} {e : Expr} {es : List Expr} {fs : Env → R (List D)} (C : Cal X.prog X.w X.K X.mg X.base x ps k m) (hr : Room k' X.A) (tk : Takes X W) (hg : Gl X x)
    (ha : VA X W (e :: es) fs) (hl : LenA fs ps.length) (hk : k ≤ k' := by decide) (hdb : (x == ("__debug__" : Str)) = false := by decide) (he : starEach (e :: es) X.env = (false, eval e X.env) :: starEach es X.env := by rfl) (hpl : (backTo pos (starEach es X.env)).any (·.1) = false := by rfl) :
    VG X W (.Call (.Name x p) (e :: es) [] pos) (callF m fs) := by
  obtain ⟨f, fd, h1, h2, h3, h4⟩ := C
  exact vg_call h4 (hr.mono hk) tk hg h1 h2 h3 ha hl hdb he hpl
end
end Vs

namespace Vs
open PySem PySem.Spec PyProof.Rows L2

/-! ### the end of a law -/
/-- a def of the text in the written part -/
def DefK (K : PySem.W.Frag) (x : Str) (st : Stmt) : Prop := ∃ (f : Addr) (oc : Value) (od : Option Addr) (kV doc pm : Value) (an : Option Addr) (cd ct : Value) (sl : Array (Option Value)),
  PySem.W.nsIn K mainGlobals x = some (some (.ref f)) ∧ K.lookup f = some ⟨oc, od, .func (PySem.W.fnOf x x (defArgs st) (defBody st) (defScope st) .none kV doc pm an cd ct), sl⟩ ∧ PySem.W.codeIn K cd x = true ∧ PySem.W.keepIn K (.ref f) = true
theorem defK_mk {K : PySem.W.Frag} {x : Str} {st : Stmt} {f : Addr} {oc : Value} {od : Option Addr} {kV doc pm : Value} {an : Option Addr} {cd ct : Value} {sl : Array (Option Value)}
    (a : PySem.W.nsIn K mainGlobals x = some (some (.ref f))) (l : K.lookup f = some ⟨oc, od, .func (PySem.W.fnOf x x (defArgs st) (defBody st) (defScope st) .none kV doc pm an cd ct), sl⟩) (c : PySem.W.codeIn K cd x = true) (k : PySem.W.keepIn K (.ref f) = true) : DefK K x st :=
  ⟨f, oc, od, kV, doc, pm, an, cd, ct, sl, a, l, c, k⟩
def NoK (K : PySem.W.Frag) (x : Str) : Prop := PySem.W.nsIn K mainGlobals x = some none
section
variable {K : PySem.W.Frag} {h : Heap} {mg : Str → Option Value} {x : Str} {st : Stmt}
theorem def_of (X : K.In h) (G : h.Ns mainGlobals mg) (d : DefK K x st) : Def K mg x st := by
  obtain ⟨f, oc, od, kV, doc, pm, an, cd, ct, sl, a, l, c, k⟩ := d
  exact ⟨f, _, fun_mk l c k, PySem.W.mg_of X G a⟩
theorem no_of (X : K.In h) (G : h.Ns mainGlobals mg) (d : NoK K x) : mg x = none := PySem.W.mg_none_of X G d
end
/-- the script: at most 63 ints of at most 2^20 bits -/
structure Scr (ns : List Int) : Prop where
  len : ns.length ≤ 63
  bits : ∀ z ∈ ns, Builtin.Int.intBits z ≤ 1048576
def spLaw (K : PySem.W.Frag) : Sp := fun vs H Q _ => ∃ (a : Addr) (ns : List Int), vs = [.ref a] ∧ SqL K H a (ns.map V.int) ∧ Scr ns ∧ ∀ H', Q (.bl true) H'
theorem rds_ints {K : PySem.W.Frag} {H : Hp} : ∀ ns : List Int, Rds K H (ns.map V.int) (ns.map D.int)
  | [] => .nil
  | n :: ns => .cons (.int n) (rds_ints ns)
theorem law_of {P : Program} {w : World} {K : PySem.W.Frag} {mg : Str → Option Value} {base : Heap} {k : Nat} {f : Addr} {fd : FuncData} {ps : List Str} {m : List D → R D}
    (F : FnOk P w K mg base (L2.CX P w) k f fd ps (spF K mg 1 m)) (h : ∀ ns, Scr ns → m [.lst (ns.map D.int)] = .ok (.bl true)) : FnOk P w K mg base (L2.CX P w) k f fd ps (spLaw K) :=
  F.imp fun vs H Q E ⟨a, ns, e, hS, hs, q⟩ => by
    subst e
    refine ⟨rfl, [.lst (ns.map D.int)], .cons (.lst hS (rds_ints ns)) .nil, ?_⟩
    rw [h ns hs]
    intro v H' A _ f _
    cases f
    exact q H'
theorem walk {l : PySem.W.OpenLaw} {q : Program} {loose : List Str} {XP : (Str → Option Value) → Heap → Prop} {YP : World → Heap → Prop} {d : DefRec} {K : Params → PySem.W.Frag} {k : Nat} (hn : l.most = some 63) (hdf : d.params.defaults = []) (hr : Room k callerA)
    (hY : ∀ (w : World) (h : Heap), YP w h → (K w.params).In h)
    (F : ∀ (w : World) (mg : Str → Option Value) (fa : Addr) (h : Heap), (K w.params).In h → h.Ns mainGlobals mg → mg d.name = some (.ref fa) →
      ∃ fd : FuncData, (∀ (s : Shared) (u : Value), BindsTo s fd ⟨[u], []⟩ [("_law_script", u)]) ∧ ∀ base : Heap, (K w.params).In base → base.Ns mainGlobals mg → FnOk l.prog w (K w.params) mg base (L2.CX l.prog w) k fa fd ["_law_script"] (spLaw (K w.params))) :
    PySem.W.WalkO q loose XP YP l.row.toRowW d [] (fun f vs => PySem.call f vs) :=
  L2.walk_ofB (n := 63) (k := k) (x := "_law_script") (CX := fun w => L2.CX l.prog w) (sp := fun w => spLaw (K w.params)) hn (by decide) hdf hr hY F
    (fun w H a ns hl hb _ hS => ⟨a, ns, rfl, hS, ⟨hl, hb⟩, fun _ => rfl⟩) fun w H s e s' z => by
      obtain ⟨_, _, _, _, _, _, _, _, _, _, _, _, z⟩ := z
      exact z
/-- the law's own def -/
def DefL (K : PySem.W.Frag) (mg : Str → Option Value) (st : Stmt) (fa : Addr) : Prop := ∃ fd, Fun K "law" "law" st fa fd
theorem defL_of {K : PySem.W.Frag} {h : Heap} {mg : Str → Option Value} {st : Stmt} {fa : Addr} (X : K.In h) (G : h.Ns mainGlobals mg) (hfa : mg "law" = some (.ref fa)) (d : DefK K "law" st) : ∃ fd, Fun K "law" "law" st fa fd := by
  obtain ⟨f, oc, od, kV, doc, pm, an, cd, ct, sl, a, l, c, k⟩ := d
  have e := hfa.symm.trans (PySem.W.mg_of X G a)
  cases e
  exact ⟨_, fun_mk l c k⟩
theorem law_end {P : Program} {w : World} {K : PySem.W.Frag} {mg : Str → Option Value} {st : Stmt} {fa : Addr} {N : List Str} {k : Nat} {own' : List Nat} {b : Env → Sr} (d : ∃ fd, Fun K "law" "law" st fa fd) (S : FnScope N ["_law_script"] (defScope st)) (hps : 1 ≤ N.length)
    (hb : ∀ (kV doc pm : Value) (an : Option Addr) (cdv ct : Value) (s : Shared) (v : Value), BindsTo s (PySem.W.fnOf "law" "law" (defArgs st) (defBody st) (defScope st) .none kV doc pm an cdv ct) ⟨[v], []⟩ [("_law_script", v)])
    (hbody : ∀ (base : Heap), K.In base → base.Ns mainGlobals mg → ∀ (f : Addr) (cdv : Value) (A : Around) (outer : List PySem.Env) (s : Shared) (H : Hp) (E : XK), Room k (A.deeper (envOfC "law" (defScope st) s.heap.objs.size f cdv)) →
      VSs (cxOf (L2.CX P w) P w K mg base N "law" (defScope st) f cdv A outer s H E) (fun cls d _ H => E cls d H) [] own' nol (defBody st) b)
    (h : ∀ ns, Scr ns → runB N.length b [.lst (ns.map D.int)] = .ok (.bl true)) :
    ∃ fd : FuncData, (∀ (s : Shared) (u : Value), BindsTo s fd ⟨[u], []⟩ [("_law_script", u)]) ∧ ∀ base : Heap, K.In base → base.Ns mainGlobals mg → FnOk P w K mg base (L2.CX P w) (k + 1) fa fd ["_law_script"] (spLaw K) := by
  obtain ⟨fd, F⟩ := d
  refine ⟨fd, fun s u => ?_, fun base h1 h2 => law_of (fn_ok F S hps fun cdv A outer s H E hr => hbody base h1 h2 fa cdv A outer s H E hr) h⟩
  obtain ⟨oc, od, kV, doc, pm, an, cdv, ct, osl, rfl, _, _⟩ := F.ex
  exact hb kV doc pm an cdv ct s u
end Vs

namespace Vs
open PySem PySem.Spec PyProof.Rows L2

/-! ### return (x, y): both lists handed out -/
def retV2 (i j : Nat) (ρ : Env) : Sr := match ρ[i]?, ρ[j]? with
  | some (some d), some (some e) => .rt (.tup [d, e])
  | _, _ => .st
section
variable {X : Cx} {W : WX} {own own' : List Nat} {ol : Ol} {pos : Pos}
theorem vs_retV2 (i j : Nat) {x y : Str} {p1 p2 p3 : Pos} {c : Nat} (pi : PE X (.Name x p1) (tVar i)) (pj : PE X (.Name y p2) (tVar j)) (hi : i ∈ own := by decide) (hj : j ∈ own := by decide) (hij : i ≠ j := by decide)
    (h1 : starEach [.Name x p1, .Name y p2] X.env = (false, eval (.Name x p1) X.env) :: starEach [.Name y p2] X.env := by rfl) (h2 : starEach [.Name y p2] X.env = (false, eval (.Name y p2) X.env) :: starEach [] X.env := by rfl) :
    VS X W own own' ol (.Return (some (.Tuple [.Name x p1, .Name y p2] c p3)) pos) (retV2 i j) := ⟨psW (ps_ret (pe_tup (pa_cons pi (pa_cons pj pa_nil h2) h1))) fun D σ H ⟨B, ρ, x, pn, q⟩ => by
  unfold retV2 at q
  split at q
  · rename_i d e hd he
    obtain ⟨S, F, b, y⟩ := x
    obtain ⟨v, a1, a2, _⟩ := y.val i d hd
    obtain ⟨w, b1, b2, _⟩ := y.val j e he
    refine ⟨v, a1, w, b1, le_line (n := 2) rfl (by decide), fun p hp => ?_⟩
    have f : Fus X.K (upd H p (.tup [v, w])) [v, w] [d, e] (F i ++ (F j ++ [])) := .cons ((a2 hi).same (new_same hp)) (.cons ((b2 hj).same (new_same hp)) .nil (fun _ _ h => nomatch h)) (fun a m h => by
      rw [List.append_nil] at h
      exact y.dis i hi j hj hij a m h)
    refine q (.ref p) _ (F i ++ (F j ++ [])) ((b.trans y.sub).trans (new_same hp)) (.tup (.inl upd_same) f) fun a m => ?_
    rw [List.append_nil] at m
    rcases List.mem_append.mp m with m | m
    · exact b.free (y.out i hi a m).1
    · exact b.free (y.out j hj a m).1
  · exact q.elim⟩
end
end Vs

namespace Vs
open PySem PySem.Spec PyProof.Rows L2

/-! ### x.bit_length(), x = y for lists -/
def bitsD : D → R D
  | .int i => .ok (.int (Builtin.Int.intBits i : Nat))
  | _ => .st
def bitsE (f : Env → R D) (ρ : Env) : R D := (f ρ).bind bitsD
def aliasS (i j : Nat) (ρ : Env) : Sr := match ρ[j]? with
  | some (some d) => .nx (ρ.set i (some d))
  | _ => .st
section
variable {X : Cx} {W : WX} {own own' : List Nat} {ol : Ol} {pos : Pos} {a : Expr} {f : Env → R D}
theorem vg_bits {apos : Pos} (ha : VE X W a f) (hbase : attributeBase a "bit_length" X.env (eval a X.env) = eval a X.env := by rfl) (hline : (apos.endLine == pos.line) = true := by rfl) :
    VG X W (.Call (.Attribute a "bit_length" apos) [] [] pos) (bitsE f) := ⟨peW (pe_bits ha.pe hbase hline) fun σ H Q ⟨ρ, re, o⟩ => ⟨ρ, re, (Out.bind o).mono fun d _ q v H1 s1 r1 => by
  unfold bitsD at q
  split at q
  · cases r1
    exact ⟨_, rfl, q _ H1 [] s1 (.int _) (fun _ h => nomatch h)⟩
  · exact q.elim⟩⟩
/-- x = y: neither owns from here on -/
theorem vs_alias (i j : Nat) {x y : Str} {p1 p2 : Pos} (hN : X.N.Nodup) (hi : X.N[i]? = some x) (hx : Loc X.env.scope x) (pj : PE X (.Name y p2) (tVar j)) (hni : i ∉ own' := by decide) (hnj : j ∉ own' := by decide) (w : ∀ k ∈ own', k ∈ own := by decide)
    (hs : swapsWith (.Name y p2) (some (.Name x p1)) pos.line X.env = pure false := by rfl) (hf : X.fn x = true ∨ X.env.scope.names.lookup x = some .local := by first | exact .inl rfl | exact .inr rfl | assumption) (hp : ol.P i = none := by rfl) :
    VS X W own own' ol (.Assign [.Name x p1] (.Name y p2) pos) (aliasS i j) := ⟨psW (ps_set hN hi hx pj hs hf) fun D σ H ⟨B, ρ, x, pn, q⟩ => by
  unfold aliasS at q
  split at q
  · rename_i d hd
    obtain ⟨S, F, b, y⟩ := x.weak w
    obtain ⟨v, a1, _, a2⟩ := y.val j d hd
    exact ⟨v, a1, q _ _ ⟨S, F, b, y.lay hni (a2 hnj)⟩ (pn.set hp)⟩
  · exact q.elim⟩
end
end Vs

namespace Vs
open PySem PySem.Spec PyProof.Rows L2

/-! ### displays as sources -/
section
variable {K : PySem.W.Frag} {H S : Hp}
theorem ext_sup {A B : List Addr} (h : ∀ a ∈ A, a ∈ B) : Same (ext S H A) (ext S H B) := fun b o e => by
  unfold ext at e ⊢
  cases q : S b with
  | some u => rw [q] at e; exact e
  | none =>
    rw [q] at e
    simp only at e ⊢
    cases q2 : H b with
    | none => rw [q2] at e; cases e
    | some u =>
      rw [q2] at e
      simp only at e ⊢
      by_cases c : Stt u ∨ b ∈ A
      · rw [if_pos c] at e
        rw [if_pos (c.imp id (h b))]
        exact e
      · rw [if_neg c] at e; cases e
variable {X : Cx} {W : WX} {own : List Nat} {es : List Expr} {fs : Env → R (List D)} {pos : Pos}
theorem vp_lst {n : Nat} (ha : VPs X W own es fs) (hl : LenA fs n) (hn : n ≤ 1000 := by decide) : VP X W own (.List es pos) (lstE fs) := ⟨peW (pe_lst ha.pa) fun σ H Q ⟨ρ, S, F, st, o⟩ => ⟨ρ, S, F, st, (Out.bind o).mono fun ds hd q vs H1 A s1 n1 r1 =>
  ⟨le_line (r1.length.trans (hl ρ ds hd)) hn, fun p hp => q _ _ (p :: A) (s1.trans (new_same hp)) (fun a m => (List.mem_cons.mp m).elim (fun z => by rw [z]; exact s1.free hp) fun z => n1 a z)
    (.lst (SqL.of (ext_at ((st.sub.trans s1).trans (new_same hp)) upd_same List.mem_cons_self)) (r1.mono ((ext_mono (A := A) (new_same hp) (st.sub.trans s1)).trans (ext_sup fun a m => List.mem_cons_of_mem _ m))))⟩⟩⟩
end
end Vs

namespace Vs
open PySem PySem.Spec PyProof.Rows L2

/-! ### places within what a slot owns -/
def getP : List Nat → D → Option D
  | [], d => some d
  | k :: p, .lst ds => match ds[k]? with | some e => getP p e | none => none
  | k :: p, .obj _ _ ds => match ds[k]? with | some e => getP p e | none => none
  | _ :: _, _ => none
def setP : List Nat → D → D → Option D
  | [], e, _ => some e
  | k :: p, e, .lst ds => match ds[k]? with | some x => (setP p e x).map fun y => .lst (ds.set k y) | none => none
  | k :: p, e, .obj c ks ds => match ds[k]? with | some x => (setP p e x).map fun y => .obj c ks (ds.set k y) | none => none
  | _ :: _, _, _ => none
def navH (H : Hp) : List Nat → V → V → Prop
  | [], v, w => v = w
  | k :: p, v, w => ∃ a x, v = .ref a ∧ ((∃ vs, H a = some (.lst vs) ∧ vs[k]? = some x) ∨ (∃ C dx fs, H a = some (.ins C dx fs) ∧ (fs.map (·.2))[k]? = some x)) ∧ navH H p x w
theorem navH_mono {H H' : Hp} (s : Same H H') : ∀ {p : List Nat} {v w : V}, navH H p v w → navH H' p v w
  | [], _, _, h => h
  | k :: p, v, w, ⟨a, x, e, h, n⟩ => ⟨a, x, e, h.imp (fun ⟨vs, h1, h2⟩ => ⟨vs, s _ _ h1, h2⟩) fun ⟨C, dx, fs, h1, h2⟩ => ⟨C, dx, fs, s _ _ h1, h2⟩, navH_mono s n⟩
theorem navH_fun {H : Hp} : ∀ {p : List Nat} {v w w' : V}, navH H p v w → navH H p v w' → w = w'
  | [], _, _, _, h, h' => h.symm.trans h'
  | k :: p, v, w, w', ⟨a, x, e, h, n⟩, ⟨a', x', e', h', n'⟩ => by
    rw [e] at e'
    cases e'
    have ex : x = x' := by
      rcases h with ⟨vs, h1, h2⟩ | ⟨C, dx, fs, h1, h2⟩ <;> rcases h' with ⟨vs', h1', h2'⟩ | ⟨C', dx', fs', h1', h2'⟩ <;> rw [h1] at h1' <;> cases h1' <;> rw [h2] at h2' <;> exact Option.some.inj h2'
    subst ex
    exact navH_fun n n'
theorem navH_app {H : Hp} : ∀ {p q : List Nat} {v w u : V}, navH H p v w → navH H q w u → navH H (p ++ q) v u
  | [], _, _, _, _, h, n => by cases h; exact n
  | k :: p, q, v, w, u, ⟨a, x, e, h, n⟩, m => ⟨a, x, e, h, navH_app n m⟩
theorem getP_app : ∀ {p q : List Nat} {d e : D}, getP p d = some e → getP (p ++ q) d = getP q e
  | [], _, d, e, h => by cases h; rfl
  | k :: p, q, d, e, h => by
    cases d with
    | lst ds =>
      simp only [getP, List.cons_append] at h ⊢
      cases hk : ds[k]? with
      | none => rw [hk] at h; cases h
      | some x => rw [hk] at h; exact getP_app h
    | obj c ks ds =>
      simp only [getP, List.cons_append] at h ⊢
      cases hk : ds[k]? with
      | none => rw [hk] at h; cases h
      | some x => rw [hk] at h; exact getP_app h
    | _ => simp only [getP] at h; cases h
section
variable {K : PySem.W.Frag} {H : Hp}
theorem Fus.focusAt : ∀ {vs : List V} {ds : List D} {A : List Addr} {k : Nat} {x : D}, Fus K H vs ds A → ds[k]? = some x → ∃ v Ak, vs[k]? = some v ∧ Fu K H v x Ak ∧ (∀ a ∈ Ak, a ∈ A) ∧
    ∀ (H' : Hp) (x' : D) (Ak' : List Addr), Fu K H' v x' Ak' → (∀ a ∈ A, a ∉ Ak → H' a = H a) → (∀ b o, Stt o → H b = some o → H' b = some o) → (∀ a ∈ Ak', a ∈ A → a ∈ Ak) →
      ∃ A', Fus K H' vs (ds.set k x') A' ∧ ∀ a ∈ A', (a ∈ A ∧ a ∉ Ak) ∨ a ∈ Ak'
  | [], _, _, k, x, .nil, h => by simp at h
  | v :: vs, _ :: _, _, k, x, .cons (A := A1) (B := A2) f r m, h => by
    cases k with
    | zero =>
      simp at h
      subst h
      refine ⟨v, A1, rfl, f, fun a ha => List.mem_append_left _ ha, fun H' x' Ak' g k t dj => ?_⟩
      refine ⟨Ak' ++ A2, .cons g (r.at (fun a ha => k a (List.mem_append_right _ ha) fun z => m a z ha) t) (fun a ha hb => m a (dj a ha (List.mem_append_right _ hb)) hb), fun a ha => ?_⟩
      rcases List.mem_append.mp ha with z | z
      · exact .inr z
      · exact .inl ⟨List.mem_append_right _ z, fun y => m a y z⟩
    | succ k =>
      obtain ⟨w, Ak, h1, h2, h3, h4⟩ := Fus.focusAt r (show _ = some x by simpa using h)
      refine ⟨w, Ak, by simpa using h1, h2, fun a ha => List.mem_append_right _ (h3 a ha), fun H' x' Ak' g k t dj => ?_⟩
      obtain ⟨A', q1, q2⟩ := h4 H' x' Ak' g (fun a ha => k a (List.mem_append_right _ ha)) t (fun a ha hb => dj a ha (List.mem_append_right _ hb))
      refine ⟨A1 ++ A', .cons (f.at (fun a ha => k a (List.mem_append_left _ ha) fun z => m a ha (h3 a z)) t) q1 (fun a ha hb => ?_), fun a ha => ?_⟩
      · rcases q2 a hb with z | z
        · exact m a ha z.1
        · exact m a ha (h3 a (dj a z (List.mem_append_left _ ha)))
      · rcases List.mem_append.mp ha with z | z
        · exact .inl ⟨List.mem_append_left _ z, fun y => m a z (h3 a y)⟩
        · exact (q2 a z).imp (fun y => ⟨List.mem_append_right _ y.1, y.2⟩) id
theorem Fu.focus : ∀ (p : List Nat) {v : V} {d e : D} {A : List Addr}, Fu K H v d A → getP p d = some e → ∃ w B, navH H p v w ∧ Fu K H w e B ∧ (∀ b ∈ B, b ∈ A) ∧
    ∀ (H' : Hp) (e' : D) (B' : List Addr), Fu K H' w e' B' → (∀ a ∈ A, a ∉ B → H' a = H a) → (∀ b o, Stt o → H b = some o → H' b = some o) → (∀ a ∈ B', a ∈ A → a ∈ B) →
      ∃ d' A', setP p e' d = some d' ∧ Fu K H' v d' A' ∧ ∀ a ∈ A', (a ∈ A ∧ a ∉ B) ∨ a ∈ B'
  | [], v, d, e, A, f, h => by
    cases h
    exact ⟨v, A, rfl, f, fun _ h => h, fun H' e' B' g _ _ _ => ⟨e', B', rfl, g, fun a ha => .inr ha⟩⟩
  | k :: p, v, d, e, A, f, h => by
    cases f with
    | @lst a vs ds A1 hp r n =>
      simp only [getP] at h
      cases hk : ds[k]? with
      | none => rw [hk] at h; cases h
      | some x =>
        rw [hk] at h
        obtain ⟨u, Ak, h1, h2, h3, h4⟩ := r.focusAt hk
        obtain ⟨w, B, g1, g2, g3, g4⟩ := Fu.focus p h2 h
        refine ⟨w, B, ⟨a, u, rfl, .inl ⟨vs, hp, h1⟩, g1⟩, g2, fun b hb => List.mem_cons_of_mem _ (h3 b (g3 b hb)), fun H' e' B' q keep t dj => ?_⟩
        obtain ⟨x', Ax, y1, y2, y3⟩ := g4 H' e' B' q (fun b hb nb => keep b (List.mem_cons_of_mem _ (h3 b hb)) nb) t (fun b hb hc => dj b hb (List.mem_cons_of_mem _ (h3 b hc)))
        have na : a ∉ Ax := fun z => (y3 a z).elim (fun y => n (h3 a y.1)) fun y => n (h3 a (g3 a (dj a y List.mem_cons_self)))
        obtain ⟨A', z1, z2⟩ := h4 H' x' Ax y2 (fun b hb nb => keep b (List.mem_cons_of_mem _ hb) fun y => nb (g3 b y)) t (fun b hb hc => (y3 b hb).elim (fun y => y.1) fun y => g3 b (dj b y (List.mem_cons_of_mem _ hc)))
        have na' : a ∉ A' := fun z => (z2 a z).elim (fun y => n y.1) na
        refine ⟨.lst (ds.set k x'), a :: A', by simp only [setP]; rw [hk]; simp only [y1, Option.map_some], .lst ((keep a List.mem_cons_self fun y => n (h3 a (g3 a y))).trans hp) z1 na', fun b hb => ?_⟩
        rcases List.mem_cons.mp hb with z | z
        · subst z
          exact .inl ⟨List.mem_cons_self, fun y => n (h3 _ (g3 _ y))⟩
        · rcases z2 b z with y | y
          · exact .inl ⟨List.mem_cons_of_mem _ y.1, fun y' => y.2 (g3 b y')⟩
          · exact (y3 b y).imp (fun y => ⟨List.mem_cons_of_mem _ (h3 b y.1), y.2⟩) id
    | @obj a C dx fs c ks ds A1 hp hx nk hq r n n2 n3 =>
      simp only [getP] at h
      cases hk : ds[k]? with
      | none => rw [hk] at h; cases h
      | some x =>
        rw [hk] at h
        obtain ⟨u, Ak, h1, h2, h3, h4⟩ := r.focusAt hk
        obtain ⟨w, B, g1, g2, g3, g4⟩ := Fu.focus p h2 h
        have up : ∀ {b}, b ∈ A1 → b ∈ a :: dx :: A1 := fun h => List.mem_cons_of_mem _ (List.mem_cons_of_mem _ h)
        refine ⟨w, B, ⟨a, u, rfl, .inr ⟨C, dx, fs, hp, h1⟩, g1⟩, g2, fun b hb => up (h3 b (g3 b hb)), fun H' e' B' q keep t dj => ?_⟩
        obtain ⟨x', Ax, y1, y2, y3⟩ := g4 H' e' B' q (fun b hb nb => keep b (up (h3 b hb)) nb) t (fun b hb hc => dj b hb (up (h3 b hc)))
        have na : a ∉ Ax := fun z => (y3 a z).elim (fun y => n (h3 a y.1)) fun y => n (h3 a (g3 a (dj a y List.mem_cons_self)))
        have nx : dx ∉ Ax := fun z => (y3 dx z).elim (fun y => n2 (h3 dx y.1)) fun y => n2 (h3 dx (g3 dx (dj dx y (List.mem_cons_of_mem _ List.mem_cons_self))))
        obtain ⟨A', z1, z2⟩ := h4 H' x' Ax y2 (fun b hb nb => keep b (up hb) fun y => nb (g3 b y)) t (fun b hb hc => (y3 b hb).elim (fun y => y.1) fun y => g3 b (dj b y (up hc)))
        have na' : a ∉ A' := fun z => (z2 a z).elim (fun y => n y.1) na
        have nx' : dx ∉ A' := fun z => (z2 dx z).elim (fun y => n2 y.1) nx
        refine ⟨.obj c ks (ds.set k x'), a :: dx :: A', by simp only [setP]; rw [hk]; simp only [y1, Option.map_some],
          .obj ((keep a List.mem_cons_self fun y => n (h3 a (g3 a y))).trans hp) ((keep dx (List.mem_cons_of_mem _ List.mem_cons_self) fun y => n2 (h3 dx (g3 dx y))).trans hx) nk hq z1 na' nx' n3, fun b hb => ?_⟩
        rcases List.mem_cons.mp hb with z | z
        · subst z
          exact .inl ⟨List.mem_cons_self, fun y => n (h3 _ (g3 _ y))⟩
        · rcases List.mem_cons.mp z with z | z
          · subst z
            exact .inl ⟨List.mem_cons_of_mem _ List.mem_cons_self, fun y => n2 (h3 _ (g3 _ y))⟩
          · rcases z2 b z with y | y
            · exact .inl ⟨up y.1, fun y' => y.2 (g3 b y')⟩
            · exact (y3 b y).imp (fun y => ⟨up (h3 b y.1), y.2⟩) id
    | _ => simp only [getP] at h; cases h
end
section
variable {K : PySem.W.Frag} {S H : Hp} {own : List Nat} {F : Nat → List Addr} {ρ : Env} {σ : L2.St}
/-- what stands at a place of slot i, and how it is changed there -/
theorem Stx.place (st : Stx own K S F ρ σ H) {i : Nat} {p : List Nat} {d e : D} (hi : i ∈ own) (hd : ρ[i]? = some (some d)) (hg : getP p d = some e) :
    ∃ v w B, σ[i]? = some (some v) ∧ navH H p v w ∧ Fu K H w e B ∧ (∀ b ∈ B, S b = none ∧ b ∈ F i ∧ ∀ j ∈ own, j ≠ i → b ∉ F j) ∧
      ∀ (q : Addr) (o' : HO) (e' : D) (B' : List Addr), q ∈ B → ¬ Stt o' → Fu K (upd H q o') w e' B' → (∀ a ∈ B', a ∈ B ∨ (S a = none ∧ ∀ j ∈ own, a ∉ F j)) →
        ∃ d' F', setP p e' d = some d' ∧ Stx own K S F' (ρ.set i (some d')) σ (upd H q o') := by
  obtain ⟨v, h1, h2, _⟩ := st.val i d hd
  obtain ⟨w, B, g1, g2, g3, g4⟩ := (h2 hi).focus p hg
  refine ⟨v, w, B, h1, g1, g2, fun b hb => ⟨(st.out i hi b (g3 b hb)).1, g3 b hb, fun j hj ne z => st.dis j hj i hi ne b z (g3 b hb)⟩, fun q o' e' B' hq ns f hB => ?_⟩
  have hqo : ∃ o, H q = some o ∧ ¬ Stt o := g2.soft q hq
  obtain ⟨d', A', s1, s2, s3⟩ := g4 (upd H q o') e' B' f (fun a _ nb => upd_ne fun z => nb (z ▸ hq)) (fun b o st hs => upd_stt hqo st hs) (fun a ha hA => (hB a ha).elim id fun z => absurd hA (z.2 i hi))
  refine ⟨d', _, s1, st.mut hi h1 hqo (st.out i hi q (g3 q hq)).1 (fun j hj ne z => st.dis j hj i hi ne q z (g3 q hq)) ns s2 fun a ha => ?_⟩
  have old : ∀ a, a ∈ F i → S a = none ∧ ∀ j ∈ own, j ≠ i → a ∉ F j := fun a ha => ⟨(st.out i hi a ha).1, fun j hj ne z => st.dis j hj i hi ne a z ha⟩
  rcases s3 a ha with z | z
  · exact old a z.1
  · rcases hB a z with y | y
    · exact old a (g3 a y)
    · exact ⟨y.1, fun j hj _ => y.2 j hj⟩
end
/-- a place: the slot, and the way to it -/
def tL (K : PySem.W.Frag) (mg : Str → Option Value) (W : WX) (own : List Nat) (i : Nat) (f : Env → R (List Nat)) : TE := fun σ H Q => ∃ ρ S F, Stx own K S F ρ σ H ∧ i ∈ own ∧ Out mg W σ H (f ρ) fun p =>
  (∃ d e, ρ[i]? = some (some d) ∧ getP p d = some e) ∧ ∀ v w H', σ[i]? = some (some v) → Same H H' → navH H' p v w → Q w H'
structure VL (X : Cx) (W : WX) (own : List Nat) (i : Nat) (e : Expr) (f : Env → R (List Nat)) : Prop where
  pe : PE X e (tL X.K X.mg W own i f)
def atP (i : Nat) (p : List Nat) (ρ : Env) : Option D := match ρ[i]? with
  | some (some d) => getP p d
  | _ => none
def noP (_ : Env) : R (List Nat) := .ok []
def ixP (i : Nat) (f : Env → R (List Nat)) (g : Env → R D) (ρ : Env) : R (List Nat) := (f ρ).bind fun p => match atP i p ρ with
  | some (.lst ds) => (g ρ).bind fun k => (match k with
    | .int n => (match ixN ds.length n with
      | some j => .ok (p ++ [j])
      | none => .st)
    | _ => .st)
  | _ => .st
theorem atP_some {i : Nat} {p : List Nat} {ρ : Env} {e : D} (h : atP i p ρ = some e) : ∃ d, ρ[i]? = some (some d) ∧ getP p d = some e := by
  unfold atP at h
  split at h
  · rename_i d hd
    exact ⟨d, hd, h⟩
  · cases h
theorem ixN_at {n : Nat} {k : Int} {j : Nat} (h : ixN n k = some j) : j < n := by
  unfold ixN at h
  repeat' split at h
  all_goals first
    | (cases h; omega)
    | cases h
section
variable {X : Cx} {W : WX} {own own' : List Nat} {ol : Ol} {e a b : Expr} {x : Str} {i : Nat} {f g : Env → R D} {fp : Env → R (List Nat)} {p pos : Pos} {st : Stmt}
theorem vl_var (i : Nat) (q : PE X (.Name x pos) (tVar i)) (hi : i ∈ own := by decide) : VL X W own i (.Name x pos) noP := ⟨peW q fun σ H Q ⟨ρ, S, F, st, hi, o⟩ => by
  obtain ⟨⟨d, e, h1, h2⟩, o⟩ := o
  obtain ⟨v, h3, _⟩ := st.val i d h1
  exact ⟨v, h3, o v v H h3 (Same.refl H) rfl⟩⟩
theorem vl_ix (ha : VL X W own i a fp) (hb : VE X W b g) (hs : PlainIx b) : VL X W own i (.Subscript a b pos) (ixP i fp g) :=
  ⟨peW (pe_ix ix_seq ha.pe hb.pe hs) fun σ H Q ⟨ρ, S, F, st, hi, o⟩ => ⟨ρ, S, F, st, hi, (Out.bind (show Out X.mg W σ H ((fp ρ).bind _) _ from o)).mono fun p _ q => by
    cases ha : atP i p ρ with
    | none => rw [ha] at q; exact q.elim
    | some d0 =>
      rw [ha] at q
      cases d0 with
      | lst ds =>
        obtain ⟨d, hd, hg⟩ := atP_some ha
        refine ⟨⟨d, _, hd, hg⟩, fun v w H1 hv s1 nv => ⟨ρ, st.env.mono s1, ((Out.bind (show Out X.mg W σ H ((g ρ).bind _) _ from q)).up s1).mono fun k _ q u H2 s2 ru => ?_⟩⟩
        cases k with
        | int n =>
          have q : Out X.mg W σ H (match ixN ds.length n with | some j => R.ok (p ++ [j]) | none => R.st) _ := q
          split at q
          · rename_i jj ej
            cases ru
            obtain ⟨v', w', B, e1, e2, e3, _⟩ := st.place hi hd hg
            rw [hv] at e1
            cases e1
            have ew := navH_fun (navH_mono s1 e2) nv
            subst ew
            obtain ⟨pa, vs, A', rfl, _, hp, r, _⟩ := e3.list
            have hj := ixN_at ej
            rw [← r.length] at hj
            obtain ⟨z, hz⟩ : ∃ z, vs[jj]? = some z := ⟨vs[jj], List.getElem?_eq_getElem hj⟩
            have hk := getP_app (q := [jj]) hg
            obtain ⟨y, hy, _⟩ := r.rd.getV hz
            have q : Out X.mg W σ H (R.ok (p ++ [jj])) _ := q
            obtain ⟨_, q⟩ := q
            refine .inl ⟨pa, vs, n, z, rfl, rfl, SqL.of ((s1.trans s2) _ _ hp), ?_, q v z H2 hv (s1.trans s2) (navH_app (navH_mono s2 nv) ⟨pa, z, rfl, .inl ⟨vs, (s1.trans s2) _ _ hp, hz⟩, rfl⟩)⟩
            unfold atI
            rw [r.length, ej]
            exact hz
          · exact q.elim
        | _ => exact q.elim
      | _ => exact q.elim⟩⟩
end

/-! ### changes at a place -/
def putP (i : Nat) (p : List Nat) (e : D) (ρ : Env) : Sr := match ρ[i]? with
  | some (some d) => (match setP p e d with
    | some d' => .nx (ρ.set i (some d'))
    | none => .st)
  | _ => .st
def appP (i : Nat) (fp : Env → R (List Nat)) (f : Env → R D) (ρ : Env) : Sr := bindS (fp ρ) ρ fun p => match atP i p ρ with
  | some (.lst ds) => bindS (f ρ) ρ fun d => if ds.length < sizeLine then putP i p (.lst (ds ++ [d])) ρ else .st
  | _ => .st
def setPS (i : Nat) (fp : Env → R (List Nat)) (fk fe : Env → R D) (ρ : Env) : Sr := bindS (fe ρ) ρ fun d => bindS (fp ρ) ρ fun p => match atP i p ρ with
  | some (.lst ds) => bindS (fk ρ) ρ fun k => (match k with
    | .int n => (match ixN ds.length n with
      | some j => putP i p (.lst (ds.set j d)) ρ
      | none => .st)
    | _ => .st)
  | _ => .st
def augPS (i : Nat) (fp : Env → R (List Nat)) (fk fe : Env → R D) (ρ : Env) : Sr := bindS (fp ρ) ρ fun p => match atP i p ρ with
  | some (.lst ds) => bindS (fk ρ) ρ fun k => (match k with
    | .int n => if 0 ≤ n then (match ixN ds.length n with
      | some j => (match ds[j]? with
        | some (.int x) => bindS (fe ρ) ρ fun y => (match y with
          | .int y => putP i p (.lst (ds.set j (.int (x + y)))) ρ
          | _ => .st)
        | _ => .st)
      | none => .st) else .st
    | _ => .st)
  | _ => .st
section
variable {X : Cx} {W : WX} {own own' : List Nat} {ol : Ol} {i : Nat} {f fk fe : Env → R D} {fp : Env → R (List Nat)} {st : Stmt}
/-- a list at a place takes other items -/
theorem put_core {S H : Hp} {F : Nat → List Addr} {ρ : Env} {σ : L2.St} {p : List Nat} {ds : List D} (y : Stx own X.K S F ρ σ H) (hi : i ∈ own) (ha : atP i p ρ = some (.lst ds)) :
    (∃ d e, ρ[i]? = some (some d) ∧ getP p d = some e) ∧ ∃ v l vs, σ[i]? = some (some v) ∧ navH H p v (.ref l) ∧ H l = some (.lst vs) ∧ Rds X.K H vs ds ∧
      ∀ (S1 H1 : Hp) (F1 : Nat → List Addr) (ws : List V) (ds' : List D), Stx own X.K S1 F1 ρ σ H1 → Same H H1 →
        (∀ A, Fus X.K H1 vs ds A → (∀ a ∈ A, S1 a = none ∧ a ∈ F1 i) → l ∉ A → l ∈ F1 i → ∃ A', Fus X.K H1 ws ds' A' ∧ ∀ a ∈ A', a ∈ A ∨ (S1 a = none ∧ ∀ j ∈ own, a ∉ F1 j)) →
        ∃ d' F', putP i p (.lst ds') ρ = .nx (ρ.set i (some d')) ∧ Stx own X.K S1 F' (ρ.set i (some d')) σ (upd H1 l (.lst ws)) := by
  obtain ⟨d, hd, hg⟩ := atP_some ha
  obtain ⟨v, w, A, e1, e2, e3, _⟩ := y.place hi hd hg
  obtain ⟨l, vs, A', rfl, rfl, hl, r, n⟩ := e3.list
  refine ⟨⟨d, _, hd, hg⟩, v, l, vs, e1, e2, hl, r.rd, fun S1 H1 F1 ws ds' y1 s1 k => ?_⟩
  obtain ⟨v', w', A2, g1, g2, g3, g4, g5⟩ := y1.place hi hd hg
  rw [e1] at g1
  cases g1
  have ew := navH_fun (navH_mono s1 e2) g2
  subst ew
  obtain ⟨l', vs', A3, e5, rfl, hl', r', n'⟩ := g3.list
  cases e5
  have ev : vs' = vs := by
    have := s1 _ _ hl
    rw [hl'] at this
    cases this
    rfl
  subst ev
  obtain ⟨A4, r4, k4⟩ := k A3 r' (fun a ha => ⟨(g4 a (List.mem_cons_of_mem _ ha)).1, (g4 a (List.mem_cons_of_mem _ ha)).2.1⟩) n' (g4 l List.mem_cons_self).2.1
  have n4 : l ∉ A4 := fun z => (k4 l z).elim n' fun z => z.2 i hi (g4 l List.mem_cons_self).2.1
  have hlo : ∃ o, H1 l = some o ∧ ¬ Stt o := ⟨_, hl', fun z => (show False from z)⟩
  obtain ⟨d', F', s2, y2⟩ := g5 l (.lst ws) (.lst ds') (l :: A4) List.mem_cons_self (fun z => (show False from z)) (fu_relist hlo r4 n4) (fun a ha => (List.mem_cons.mp ha).elim (fun z => .inl (by rw [z]; exact List.mem_cons_self)) fun z => (k4 a z).imp (fun z => List.mem_cons_of_mem _ z) id)
  refine ⟨d', F', ?_, y2⟩
  unfold putP
  rw [hd]
  simp only [s2]
/-- the same, and what holds behind it -/
theorem put_list {S H : Hp} {F : Nat → List Addr} {ρ : Env} {σ : L2.St} {B : Hp} {p : List Nat} {ds : List D} (y : Stx own X.K S F ρ σ H) (hi : i ∈ own) (ha : atP i p ρ = some (.lst ds)) :
    (∃ d e, ρ[i]? = some (some d) ∧ getP p d = some e) ∧ ∃ v l vs, σ[i]? = some (some v) ∧ navH H p v (.ref l) ∧ H l = some (.lst vs) ∧ Rds X.K H vs ds ∧
      ∀ (S1 H1 : Hp) (F1 : Nat → List Addr) (ws : List V) (ds' : List D) (En : Ends), Stx own X.K S1 F1 ρ σ H1 → Same H H1 → Same B S1 →
        (∀ A, Fus X.K H1 vs ds A → (∀ a ∈ A, S1 a = none ∧ a ∈ F1 i) → l ∉ A → l ∈ F1 i → ∃ A', Fus X.K H1 ws ds' A' ∧ ∀ a ∈ A', a ∈ A ∨ (S1 a = none ∧ ∀ j ∈ own, a ∉ F1 j)) →
        SEnd X.K X.mg W own ol B En (putP i p (.lst ds') ρ) → Pin ol.P σ → En.nx σ (upd H1 l (.lst ws)) := by
  obtain ⟨g0, v, l, vs, e1, e2, e3, e4, e5⟩ := put_core y hi ha
  refine ⟨g0, v, l, vs, e1, e2, e3, e4, fun S1 H1 F1 ws ds' En y1 s1 b1 k q pn => ?_⟩
  obtain ⟨d', F', h1, h2⟩ := e5 S1 H1 F1 ws ds' y1 s1 k
  rw [h1] at q
  exact q _ _ ⟨_, _, b1, h2⟩ pn
/-- place.append(e) -/
theorem vs_appendP (p : PS X st (tDrop (tBM X.K "list" rAppend (tL X.K X.mg W own i fp) (tCons (tG X.K X.mg W f) tNil)))) (hi : i ∈ own := by decide) (we : ∀ i ∈ ol.e, i ∈ own := by first | decide | (dsimp only; decide)) : VS X W own own ol st (appP i fp f) := ⟨psW p fun En σ H ⟨B, ρ, x, pn, q⟩ => by
  unfold appP at q
  have q := SEnd.out x pn we q
  obtain ⟨S, F, b, y⟩ := x
  refine ⟨ρ, S, F, y, hi, q.mono fun pt _ q => ?_⟩
  cases ha : atP i pt ρ with
  | none => rw [ha] at q; exact q.elim
  | some d0 =>
    rw [ha] at q
    cases d0 with
    | lst ds =>
      obtain ⟨g0, v, l, vs, e1, e2, e3, e4, e5⟩ := put_list (W := W) (ol := ol) (B := B) y hi ha
      refine ⟨g0, fun v' w H1 hv s1 nv => ?_⟩
      rw [e1] at hv
      cases hv
      have ew := navH_fun (navH_mono s1 e2) nv
      subst ew
      have y1 := y.grow s1 (A := []) (fun _ z => nomatch z)
      have q := SEnd.out (own' := own) (σ := σ) (H := H1) ⟨_, _, b.trans (ext_s []), y1⟩ pn we (show SEnd X.K X.mg W own ol B En (bindS (f ρ) ρ _) from q)
      refine ⟨.inl ⟨rfl, _, .inl (.inl (s1 _ _ e3))⟩, ρ, y1.env, q.mono fun d _ q u H2 C s2 f2 n2 => ?_⟩
      by_cases hz : ds.length < sizeLine
      rotate_left
      · rw [if_neg hz] at q; exact q.elim
      rw [if_pos hz] at q
      have y2 := y1.grow s2 (A := []) (fun _ z => nomatch z)
      have fr := y1.fresh s2 f2 n2
      refine ⟨l, vs, u, rfl, rfl, (s1.trans s2) _ _ e3, by rw [e4.length]; exact hz, ?_⟩
      refine e5 _ H2 _ _ _ En y2 (s1.trans s2) ((b.trans (ext_s [])).trans (ext_s [])) (fun A r k n m => ?_) q pn
      refine ⟨A ++ (C ++ []), r.app (.cons f2 .nil fun _ _ z => nomatch z) (fun a ha hb => ?_), fun a ha => ?_⟩
      · rw [List.append_nil] at hb
        exact (fr a hb).2 i hi (k a ha).2
      · rw [List.append_nil] at ha
        exact (List.mem_append.mp ha).imp id fun z => fr a z
    | _ => exact q.elim⟩
/-- place[k] = e -/
theorem vs_setP (p : PS X st (tAsg (tG X.K X.mg W fe) (gSub (tL X.K X.mg W own i fp) (tF X.K X.mg W fk) rSetL))) (hi : i ∈ own := by decide) (we : ∀ i ∈ ol.e, i ∈ own := by first | decide | (dsimp only; decide)) : VS X W own own ol st (setPS i fp fk fe) := ⟨psW p fun En σ H ⟨B, ρ, x, pn, q⟩ => by
  unfold setPS at q
  have q := SEnd.out x pn we q
  obtain ⟨S, F, b, y⟩ := x
  refine ⟨ρ, y.env, q.mono fun d _ q u H1 C s1 f1 n1 => ?_⟩
  have y1 := y.grow s1 (A := []) (fun _ z => nomatch z)
  have fr := y.fresh s1 f1 n1
  have b1 := b.trans (ext_s (S := S) (H := H1) [])
  have q := SEnd.out (own' := own) (σ := σ) (H := H1) ⟨_, _, b1, y1⟩ pn we q
  refine ⟨ρ, _, _, y1, hi, q.mono fun pt _ q => ?_⟩
  cases ha : atP i pt ρ with
  | none => rw [ha] at q; exact q.elim
  | some d0 =>
    rw [ha] at q
    cases d0 with
    | lst ds =>
      obtain ⟨g0, v, l, vs, e1, e2, e3, e4, e5⟩ := put_list (W := W) (ol := ol) (B := B) y1 hi ha
      refine ⟨g0, fun v' w H2 hv s2 nv => ?_⟩
      rw [e1] at hv
      cases hv
      have ew := navH_fun (navH_mono s2 e2) nv
      subst ew
      have y2 := y1.grow s2 (A := []) (fun _ z => nomatch z)
      have b2 := b1.trans (ext_s (S := _) (H := H2) [])
      have q := SEnd.out (own' := own) (σ := σ) (H := H2) ⟨_, _, b2, y2⟩ pn we (show SEnd X.K X.mg W own ol B En (bindS (fk ρ) ρ _) from q)
      refine ⟨ρ, y2.env, q.mono fun k _ q kv H3 s3 rk => ?_⟩
      cases k with
      | int n =>
        have q : SEnd X.K X.mg W own ol B En (match ixN ds.length n with | some j => putP i pt (.lst (ds.set j d)) ρ | none => .st) := q
        cases ej : ixN ds.length n with
        | none => rw [ej] at q; exact q.elim
        | some j =>
          rw [ej] at q
          cases rk
          have y3 := y2.grow s3 (A := []) (fun _ z => nomatch z)
          have f3 := (f1.same s2).same s3
          refine ⟨l, vs, n, j, rfl, rfl, (s2.trans s3) _ _ e3, by rw [e4.length]; exact ej, ?_⟩
          have fr3 : ∀ a ∈ C, ext (ext (ext S H1 []) H2 []) H3 [] a = none ∧ ∀ j ∈ own, a ∉ F j := fun a ha => by
            obtain ⟨o, h1, h2⟩ := f3.soft a ha
            obtain ⟨o1, h3, h4⟩ := f1.soft a ha
            have h5 := (fr a ha).1
            refine ⟨ext_none (ext_none h5 (fun z => nomatch z) (fun o' e => ?_)) (fun z => nomatch z) (fun o' e => ?_), (fr a ha).2⟩
            · rw [s2 _ _ h3] at e; cases e; exact h4
            · rw [h1] at e; cases e; exact h2
          refine e5 _ H3 _ _ _ En y3 (s2.trans s3) (b2.trans (ext_s [])) (fun A r k n m => ?_) q pn
          obtain ⟨A', r', k'⟩ := Fus.set (vs := vs) (ds := ds) (A := A) f3 r (fun a ha z => (fr3 a ha).2 i hi (k a z).2) j
          exact ⟨A', r', fun a ha => (k' a ha).imp id fun z => fr3 a z⟩
      | _ => exact q.elim
    | _ => exact q.elim⟩
/-- o[i], by values -/
def rGetL (K : PySem.W.Frag) : V → V → Hp → VK → Prop := fun o i H Q => ∃ p xs k v, o = .ref p ∧ i = .int k ∧ SqL K H p xs ∧ 0 ≤ k ∧ atI xs k = some v ∧ Q v H
theorem get_list : PGet X (rGetL X.K) := by
  intro pins s σ H o i ov iv Q I ro ri h
  obtain ⟨p, xs, k, z, rfl, rfl, hq, h0, he, q⟩ := h
  cases ro
  obtain ⟨t, rfl⟩ := ri
  obtain ⟨its, r, pl, hz⟩ := I.list hq
  obtain ⟨j, h1, h2, h3, h4, h5⟩ := atI_get he
  obtain ⟨w, ew, rw'⟩ := r.get h2
  have hl := r.length
  have hn := line63
  have hj : k.toNat = j := by
    rw [seqIndex_of h0 h5] at h1
    exact Option.some.inj h1
  exact wpAny_getItem_list pl.isList h0 (by omega) (by rw [hj]; simpa using ew) ⟨z, H, I, rw', q⟩
end
end Vs

namespace PySem.AutoSeq1
theorem list_extendW (l : Addr) (items : Array Value) (n : Nat) (b : Addr) (items2 : Array Value) (n2 : Nat) (sl : Array (Option Value)) (hc0 : ¬(!items.isEmpty && Builtin.List.listTooLong (items.size + items2.size)) = true) (hc1 : items.size ≤ sizeLine) (hs2 : items.size + items2.size ≤ sizeLine + 1 := by seq_fits) :
    Meets (Builtin.«list.extend» ⟨[.ref l, .ref b], []⟩) (fun _ R s => s.heap.get? l = some { cls := .type "list", dict := none, data := .seq items n, slots := #[] } ∧ s.heap.get? b = some { cls := .type "list", dict := none, data := .seq items2 n2, slots := sl } ∧ R (.ok (.ret Value.none)) { s with heap := s.heap.update l (Obj.mapSeq fun x => x ++ items2), toks := s.toks }) :=
  .of_wp fun prog w A R s h => by
    obtain ⟨hp, g, d, tk, os⟩ := s; obtain ⟨hl, hb, h⟩ := h; have f1 := idx_int; have f2 := sub_tuple_tuple; have f3 := sub_list_list; have f4 := sub_tuple_list; have f5 := sub_list_tuple;
    have hz' : (items ++ items2).size ≤ sizeLine + 1 := by rw [Array.size_append]; exact hs2
    wp_walk using (wpAny_updateSeq hl rfl (hz := hc1) (_hz' := hz')), wpAny_loadPart' hl, wpAny_loadPart' hb; exact ⟨_, rfl, h⟩
end PySem.AutoSeq1
namespace Vs
open PySem PySem.Spec PyProof.Rows L2
section
variable {X : Cx}
def rExtendS (K : PySem.W.Frag) : V → List V → Hp → VK → Prop := fun x vs H Q => ∃ l b xs zs, x = .ref l ∧ vs = [.ref b] ∧ H l = some (.lst xs) ∧ SqL K H b zs ∧ xs.length + zs.length ≤ sizeLine ∧ Q .non (upd H l (.lst (xs ++ zs)))
theorem mt_extendS : MtM X "list.extend" (rExtendS X.K) := by
  intro pins s σ H x vs v us Q I rx rv h
  obtain ⟨l, b, xs, zs, rfl, rfl, hH, hB, hz, q⟩ := h
  cases rx
  obtain ⟨u, rfl, ru⟩ := rv.one
  cases ru
  obtain ⟨z, its, n, r, hl, e⟩ := I.lstM hH
  obtain ⟨its2, r2, ⟨o2, n2, ho2, hc2, hdc2, hd2⟩, z2⟩ := I.list hB
  have hl2 := r2.length
  obtain ⟨cls2, dd2, data2, sl2⟩ := o2
  simp only at hc2 hd2 hdc2
  subst hc2 hd2 hdc2
  have hsz : its.toArray.size + its2.toArray.size ≤ sizeLine := by rw [List.size_toArray, List.size_toArray]; omega
  have hlong : ¬ (!its.toArray.isEmpty && Builtin.List.listTooLong (its.toArray.size + its2.toArray.size)) = true := by
    rw [notLongL hsz, Bool.and_false]
    exact Bool.false_ne_true
  refine call_meets F.slot_list_extend ⟨_, e, rfl⟩ F.entry_list_extend (F.args_list_extend_2 _ _)
    (AutoSeq1.list_extendW l its.toArray n b its2.toArray n2 sl2 hlong (by rw [List.size_toArray]; omega) (by omega)) ⟨e, ho2, ?_⟩
  refine ⟨.non, _, I.lset (its' := its ++ its2) hH e (by simp) (r.append r2) ?_, rfl, q⟩
  rw [List.length_append]
  omega
end
theorem immDs_all : ∀ {xs : List D}, immDs xs = true ↔ ∀ x ∈ xs, immD x = true
  | [] => by rw [immDs]; simp
  | x :: xs => by rw [immDs, Bool.and_eq_true, immDs_all (xs := xs)]; simp
def extP (i : Nat) (fp : Env → R (List Nat)) (f : Env → R D) (ρ : Env) : Sr := bindS (fp ρ) ρ fun p => match atP i p ρ with
  | some (.lst ds) => bindS (f ρ) ρ fun d => (match d with
    | .lst es => if ds.length + es.length ≤ sizeLine ∧ immDs es = true then putP i p (.lst (ds ++ es)) ρ else .st
    | _ => .st)
  | _ => .st
/-- several names at once -/
def putAll : List Nat → List D → Env → Env
  | i :: is, d :: ds, ρ => putAll is ds (ρ.set i (some d))
  | _, _, ρ => ρ
def unpR (n : Nat) (d : D) : R (List D) := match d with
  | .tup ds => if ds.length = n then .ok ds else .st
  | _ => .st
def unpS (is : List Nat) (f : Env → R D) (ρ : Env) : Sr := bindS ((f ρ).bind (unpR is.length)) ρ fun ds => .nx (putAll is ds ρ)
def Sr.seq : Sr → (Env → Sr) → Sr
  | .nx ρ, b => b ρ
  | r, _ => r
def popS (i : Nat) (fp : Env → R (List Nat)) (is : List Nat) (ρ : Env) : Sr := bindS (fp ρ) ρ fun p => match atP i p ρ with
  | some (.lst ds) => (match ds[ds.length - 1]? with
    | some d => if immD d = true then bindS (unpR is.length d) ρ fun es => (putP i p (.lst ds.dropLast) ρ).seq fun ρ' => .nx (putAll is es ρ') else .st
    | none => .st)
  | _ => .st
def gNames : List Nat → TGs
  | [] => gNil
  | i :: is => gCons (gName i) (gNames is)
section
variable {K : PySem.W.Frag} {S H : Hp} {own : List Nat} {F : Nat → List Addr} {ρ : Env} {σ : L2.St}
theorem Stx.put2 (h : Stx own K S F ρ σ H) {v : V} {d : D} {A : List Addr} (f : Fu K H v d A) (hA : ∀ a ∈ A, S a = none ∧ ∀ j ∈ own, a ∉ F j) (i : Nat) :
    Stx (i :: own) K S (fun j => if j = i then A else F j) (ρ.set i (some d)) (σ.set i (some v)) H := by
  refine ⟨by rw [List.length_set, List.length_set]; exact h.len, h.sub, h.cl, fun j e q => ?_, fun j m a ha => ?_, fun j mj k mk ne a ha => ?_⟩
  · rcases get_set q with ⟨rfl, e1, hl⟩ | ⟨ne, q⟩
    · cases e1
      refine ⟨v, ?_, fun _ => ?_, fun m => absurd List.mem_cons_self m⟩
      · rw [List.getElem?_set_self (by rw [← h.len]; exact hl)]
      · rw [if_pos rfl]; exact f
    · obtain ⟨u, h1, h2, h3⟩ := h.val j e q
      refine ⟨u, by rw [List.getElem?_set_ne (Ne.symm ne)]; exact h1, fun m => ?_, fun m => h3 fun z => m (List.mem_cons_of_mem _ z)⟩
      rw [if_neg ne]
      exact h2 ((List.mem_cons.mp m).resolve_left ne)
  · by_cases e : j = i
    · rw [if_pos e] at ha
      exact ⟨(hA a ha).1, f.soft a ha⟩
    · rw [if_neg e] at ha
      exact h.out j ((List.mem_cons.mp m).resolve_left e) a ha
  · intro hk
    by_cases ej : j = i
    · rw [if_pos ej] at ha
      have ek : k ≠ i := fun z => ne (ej.trans z.symm)
      rw [if_neg ek] at hk
      exact (hA a ha).2 k ((List.mem_cons.mp mk).resolve_left ek) hk
    · rw [if_neg ej] at ha
      by_cases ek : k = i
      · rw [if_pos ek] at hk
        exact (hA a hk).2 j ((List.mem_cons.mp mj).resolve_left ej) ha
      · rw [if_neg ek] at hk
        exact h.dis j ((List.mem_cons.mp mj).resolve_left ej) k ((List.mem_cons.mp mk).resolve_left ek) ne a ha hk
theorem names_put {Q : L2.St → Hp → Prop} : ∀ {is : List Nat} {vs : List V} {ds : List D} {A : List Addr} {own : List Nat} {F : Nat → List Addr} {ρ : Env} {σ : L2.St}, Stx own K S F ρ σ H → Fus K H vs ds A → (∀ a ∈ A, S a = none ∧ ∀ j ∈ own, a ∉ F j) → ds.length = is.length →
    (∀ σ' F', Stx (is.reverse ++ own) K S F' (putAll is ds ρ) σ' H → (∀ k, k ∉ is → σ'[k]? = σ[k]?) → Q σ' H) → gNames is vs σ H Q
  | [], _, _, _, own, F, ρ, σ, st, f, hA, hl, q => by
    cases f with
    | nil => exact ⟨rfl, q σ F st fun _ _ => rfl⟩
    | cons _ _ _ => cases hl
  | i :: is, _, _, _, own, F, ρ, σ, st, f, hA, hl, q => by
    cases f with
    | nil => cases hl
    | @cons v vs d ds A B h r m =>
      refine ⟨v, vs, rfl, ?_⟩
      refine names_put (st.put2 h (fun a ha => hA a (List.mem_append_left _ ha)) i) r (fun a ha => ⟨(hA a (List.mem_append_right _ ha)).1, fun j mj => ?_⟩) (by simpa using hl) fun σ' F' st' k' => ?_
      · by_cases e : j = i
        · rw [if_pos e]
          exact fun z => m a z ha
        · rw [if_neg e]
          exact (hA a (List.mem_append_right _ ha)).2 j ((List.mem_cons.mp mj).resolve_left e)
      · refine q σ' F' ?_ fun k hk => ?_
        · rw [List.reverse_cons, List.append_assoc]
          exact st'
        · rw [k' k fun z => hk (List.mem_cons_of_mem _ z), List.getElem?_set_ne fun e => hk (by rw [← e]; exact List.mem_cons_self)]
theorem names_lay {Q : L2.St → Hp → Prop} : ∀ {is : List Nat} {vs : List V} {ds : List D} {ρ : Env} {σ : L2.St}, Stx own K S F ρ σ H → Rds K S vs ds → ds.length = is.length → (∀ i ∈ is, i ∉ own) →
    (∀ σ', Stx own K S F (putAll is ds ρ) σ' H → (∀ k, k ∉ is → σ'[k]? = σ[k]?) → σ'.length = σ.length → Q σ' H) → gNames is vs σ H Q
  | [], _, _, ρ, σ, st, f, hl, hn, q => by
    cases f with
    | nil => exact ⟨rfl, q σ st (fun _ _ => rfl) rfl⟩
    | cons _ _ => cases hl
  | i :: is, _, _, ρ, σ, st, f, hl, hn, q => by
    cases f with
    | nil => cases hl
    | @cons v vs d ds h r =>
      refine ⟨v, vs, rfl, ?_⟩
      refine names_lay (st.lay (hn i List.mem_cons_self) h) r (by simpa using hl) (fun j hj => hn j (List.mem_cons_of_mem _ hj)) fun σ' st' k' l' => q σ' st' (fun k hk => ?_) (by rw [l', List.length_set])
      rw [k' k fun z => hk (List.mem_cons_of_mem _ z), List.getElem?_set_ne fun e => hk (by rw [← e]; exact List.mem_cons_self)]
end
def tgTs (is : List Nat) (d : D) (ρ : Env) : Option Env := match d with
  | .tup ds => if ds.length = is.length then some (putAll is ds ρ) else none
  | _ => none
theorem tk_tups {X : Cx} {own : List Nat} (is : List Nat) {n : Nat} (hn : n = is.length) (hi : ∀ i ∈ is, i ∉ own) : TgOk X own is (gTup X.K n (gNames is)) (tgTs is) := fun S F ρ σ H v d ρ' st r e Q q => by
  unfold tgTs at e
  split at e
  · split at e
    · rename_i hl
      cases e
      cases r with
      | tup h r =>
        refine ⟨_, _, rfl, (seqT st.sub h).sq, by rw [r.length, hl, hn], names_lay st r hl hi fun σ' st' k' l' => q σ' st' k' l'⟩
    · cases e
  · cases e
section
variable {X : Cx} {W : WX} {own own' : List Nat} {ol : Ol} {i : Nat} {f fk fe : Env → R D} {fp : Env → R (List Nat)} {st : Stmt}
/-- a, b, .. = e -/
theorem vs_unpack (is : List Nat) {n : Nat} (p : PS X st (tAsg (tG X.K X.mg W f) (gTup X.K n (gNames is)))) (hn : n = is.length) (we : ∀ i ∈ ol.e, i ∈ own := by first | decide | (dsimp only; decide)) (hpn : ∀ i ∈ is, ol.P i = none := by first | exact (fun _ _ => rfl) | (intro i hi; simp only [List.mem_cons, List.not_mem_nil, or_false] at hi; (repeat' (rcases hi with rfl | hi)) <;> first | rfl | (subst hi; rfl))) : VS X W own (is.reverse ++ own) ol st (unpS is f) := ⟨psW p fun En σ H ⟨B, ρ, x, pn, q⟩ => by
  unfold unpS at q
  have q := SEnd.out x pn we q
  obtain ⟨S, F, b, y⟩ := x
  refine ⟨ρ, y.env, (Out.bind q).mono fun d _ q v H1 A s1 f1 n1 => ?_⟩
  unfold unpR at q
  cases d with
  | tup ds =>
    have q : Out X.mg W σ H (if ds.length = is.length then R.ok ds else R.st) _ := q
    by_cases hl : ds.length = is.length
    · rw [if_pos hl] at q
      cases f1 with
      | tup h r =>
        have y1 := y.grow s1 (A := []) (fun _ z => nomatch z)
        refine ⟨_, _, rfl, TpT.sq h, by rw [r.length, hl, hn], names_put y1 r (fun a ha => ?_) hl fun σ' F' st' k' => q _ _ ⟨_, _, b.trans (ext_s []), st'⟩ (pn.keep fun j hj => k' j fun m => hj (hpn j m))⟩
        exact y.fresh s1 (.tup h r) n1 a ha
    · rw [if_neg hl] at q; exact q.elim
  | _ => exact q.elim⟩
/-- place.extend(e) -/
theorem vs_extendP (p : PS X st (tDrop (tBM X.K "list" (rExtendS X.K) (tL X.K X.mg W own i fp) (tCons (tF X.K X.mg W f) tNil)))) (hi : i ∈ own := by decide) (we : ∀ i ∈ ol.e, i ∈ own := by first | decide | (dsimp only; decide)) : VS X W own own ol st (extP i fp f) := ⟨psW p fun En σ H ⟨B, ρ, x, pn, q⟩ => by
  unfold extP at q
  have q := SEnd.out x pn we q
  obtain ⟨S, F, b, y⟩ := x
  refine ⟨ρ, S, F, y, hi, q.mono fun pt _ q => ?_⟩
  cases ha : atP i pt ρ with
  | none => rw [ha] at q; exact q.elim
  | some d0 =>
    rw [ha] at q
    cases d0 with
    | lst ds =>
      obtain ⟨g0, v, l, vs, e1, e2, e3, e4, e5⟩ := put_list (W := W) (ol := ol) (B := B) y hi ha
      refine ⟨g0, fun v' w H1 hv s1 nv => ?_⟩
      rw [e1] at hv
      cases hv
      have ew := navH_fun (navH_mono s1 e2) nv
      subst ew
      have y1 := y.grow s1 (A := []) (fun _ z => nomatch z)
      have q := SEnd.out (own' := own) (σ := σ) (H := H1) ⟨_, _, b.trans (ext_s []), y1⟩ pn we (show SEnd X.K X.mg W own ol B En (bindS (f ρ) ρ _) from q)
      refine ⟨.inl ⟨rfl, _, .inl (.inl (s1 _ _ e3))⟩, ρ, y1.env, q.mono fun d _ q u H2 s2 r2 => ?_⟩
      cases d with
      | lst es =>
        have q : SEnd X.K X.mg W own ol B En (if ds.length + es.length ≤ sizeLine ∧ immDs es = true then putP i pt (.lst (ds ++ es)) ρ else .st) := q
        by_cases hz : ds.length + es.length ≤ sizeLine ∧ immDs es = true
        rotate_left
        · rw [if_neg hz] at q; exact q.elim
        rw [if_pos hz] at q
        have y2 := y1.grow s2 (A := []) (fun _ z => nomatch z)
        cases r2 with
        | @lst l2 ws _ h2 r2 =>
          refine ⟨l, l2, vs, ws, rfl, rfl, (s1.trans s2) _ _ e3, h2, by rw [e4.length, r2.length]; exact hz.1, ?_⟩
          refine e5 _ H2 _ _ _ En y2 (s1.trans s2) ((b.trans (ext_s [])).trans (ext_s [])) (fun A r k n m => ?_) q pn
          exact ⟨A ++ [], r.app (r2.fu hz.2) (fun a ha hb => nomatch hb), fun a ha => by rw [List.append_nil] at ha; exact .inl ha⟩
      | _ => exact q.elim
    | _ => exact q.elim⟩
/-- place[k] += e, ints -/
theorem vs_augP (p : PS X st (tAugS (tL X.K X.mg W own i fp) (tF X.K X.mg W fk) (tF X.K X.mg W fe) (rGetL X.K) (ipI fun i j => i + j) rSetL)) (hi : i ∈ own := by decide) (we : ∀ i ∈ ol.e, i ∈ own := by first | decide | (dsimp only; decide)) : VS X W own own ol st (augPS i fp fk fe) := ⟨psW p fun En σ H ⟨B, ρ, x, pn, q⟩ => by
  unfold augPS at q
  have q := SEnd.out x pn we q
  obtain ⟨S, F, b, y⟩ := x
  refine ⟨ρ, S, F, y, hi, q.mono fun pt _ q => ?_⟩
  cases ha : atP i pt ρ with
  | none => rw [ha] at q; exact q.elim
  | some d0 =>
    rw [ha] at q
    cases d0 with
    | lst ds =>
      obtain ⟨g0, v, l, vs, e1, e2, e3, e4, e5⟩ := put_list (W := W) (ol := ol) (B := B) y hi ha
      refine ⟨g0, fun v' w H1 hv s1 nv => ?_⟩
      rw [e1] at hv
      cases hv
      have ew := navH_fun (navH_mono s1 e2) nv
      subst ew
      have y1 := y.grow s1 (A := []) (fun _ z => nomatch z)
      have b1 := b.trans (ext_s (S := S) (H := H1) [])
      have q := SEnd.out (own' := own) (σ := σ) (H := H1) ⟨_, _, b1, y1⟩ pn we (show SEnd X.K X.mg W own ol B En (bindS (fk ρ) ρ _) from q)
      refine ⟨ρ, y1.env, q.mono fun k _ q kv H2 s2 rk => ?_⟩
      cases k with
      | int n =>
        have q : SEnd X.K X.mg W own ol B En (if 0 ≤ n then (match ixN ds.length n with
          | some j => (match ds[j]? with
            | some (.int x) => bindS (fe ρ) ρ fun y => (match y with
              | .int y => putP i pt (.lst (ds.set j (.int (x + y)))) ρ
              | _ => .st)
            | _ => .st)
          | none => .st) else .st) := q
        by_cases h0 : 0 ≤ n
        rotate_left
        · rw [if_neg h0] at q; exact q.elim
        rw [if_pos h0] at q
        cases ej : ixN ds.length n with
        | none => rw [ej] at q; exact q.elim
        | some j =>
          rw [ej] at q
          cases rk
          have y2 := y1.grow s2 (A := []) (fun _ z => nomatch z)
          have b2 := b1.trans (ext_s (S := _) (H := H2) [])
          have q : SEnd X.K X.mg W own ol B En (match ds[j]? with
            | some (.int x) => bindS (fe ρ) ρ fun y => (match y with
              | .int y => putP i pt (.lst (ds.set j (.int (x + y)))) ρ
              | _ => .st)
            | _ => .st) := q
          cases ex : ds[j]? with
          | none => rw [ex] at q; exact q.elim
          | some x0 =>
            rw [ex] at q
            cases x0 with
            | int x =>
              obtain ⟨xv, hx1, hx2⟩ := e4.get ex
              cases hx2
              refine ⟨l, vs, n, .int x, rfl, rfl, SqL.of ((s1.trans s2) _ _ e3), h0, by unfold atI; rw [e4.length, ej]; exact hx1, ?_⟩
              have q := SEnd.out (own' := own) (σ := σ) (H := H2) ⟨_, _, b2, y2⟩ pn we (show SEnd X.K X.mg W own ol B En (bindS (fe ρ) ρ _) from q)
              refine ⟨ρ, y2.env, q.mono fun e _ q u H3 s3 r3 => ?_⟩
              cases e with
              | int z =>
                cases r3
                have y3 := y2.grow s3 (A := []) (fun _ z => nomatch z)
                refine ⟨x, z, rfl, rfl, l, vs, n, j, rfl, rfl, ((s1.trans s2).trans s3) _ _ e3, by rw [e4.length]; exact ej, ?_⟩
                refine e5 _ H3 _ _ _ En y3 ((s1.trans s2).trans s3) (b2.trans (ext_s [])) (fun A r k n m => ?_) q pn
                obtain ⟨A', r', k'⟩ := Fus.set (vs := vs) (ds := ds) (A := A) (Fu.int (K := X.K) (H := H3) (x + z)) r (fun a ha => nomatch ha) j
                exact ⟨A', r', fun a ha => (k' a ha).imp id fun z => nomatch z⟩
              | _ => exact q.elim
            | _ => exact q.elim
      | _ => exact q.elim
    | _ => exact q.elim⟩
theorem Fus.dropLast {K : PySem.W.Frag} {H : Hp} : ∀ {vs : List V} {ds : List D} {A : List Addr}, Fus K H vs ds A → ∃ A', Fus K H vs.dropLast ds.dropLast A' ∧ ∀ a ∈ A', a ∈ A := by
  intro vs
  induction vs with
  | nil =>
    intro ds A f
    cases f
    exact ⟨[], .nil, fun _ h => h⟩
  | cons v vs ih =>
    intro ds A f
    cases f with
    | @cons _ _ d ds A B h r m =>
      cases r with
      | nil => exact ⟨[], .nil, fun _ h => nomatch h⟩
      | @cons w ws e es A2 B2 h2 r2 m2 =>
        obtain ⟨A', r', k⟩ := ih (.cons h2 r2 m2)
        refine ⟨A ++ A', .cons h r' fun x hx hy => m x hx (k x hy), fun a ha => ?_⟩
        rcases List.mem_append.mp ha with z | z
        · exact List.mem_append_left _ z
        · exact List.mem_append_right _ (k a z)
/-- a, b, .. = place.pop() -/
theorem vs_popT (is : List Nat) {n : Nat} (p : PS X st (tAsg (tBM0 X.K "list" rPop (tL X.K X.mg W own i fp)) (gTup X.K n (gNames is)))) (hn : n = is.length) (hi : i ∈ own := by decide) (we : ∀ i ∈ ol.e, i ∈ own := by first | decide | (dsimp only; decide)) (hpn : ∀ i ∈ is, ol.P i = none := by first | exact (fun _ _ => rfl) | (intro i hi; simp only [List.mem_cons, List.not_mem_nil, or_false] at hi; (repeat' (rcases hi with rfl | hi)) <;> first | rfl | (subst hi; rfl))) : VS X W own (is.reverse ++ own) ol st (popS i fp is) := ⟨psW p fun En σ H ⟨B, ρ, x, pn, q⟩ => by
  unfold popS at q
  have q := SEnd.out x pn we q
  obtain ⟨S, F, b, y⟩ := x
  refine ⟨ρ, S, F, y, hi, q.mono fun pt _ q => ?_⟩
  cases ha : atP i pt ρ with
  | none => rw [ha] at q; exact q.elim
  | some d0 =>
    rw [ha] at q
    cases d0 with
    | lst ds =>
      obtain ⟨g0, v, l, vs, e1, e2, e3, e4, e5⟩ := put_core y hi ha
      refine ⟨g0, fun v' w H1 hv s1 nv => ?_⟩
      rw [e1] at hv
      cases hv
      have ew := navH_fun (navH_mono s1 e2) nv
      subst ew
      have q : SEnd X.K X.mg W (is.reverse ++ own) ol B En (match ds[ds.length - 1]? with
        | some d => if immD d = true then bindS (unpR is.length d) ρ fun es => (putP i pt (.lst ds.dropLast) ρ).seq fun ρ' => .nx (putAll is es ρ') else .st
        | none => .st) := q
      cases ed : ds[ds.length - 1]? with
      | none => rw [ed] at q; exact q.elim
      | some d =>
        rw [ed] at q
        have q : SEnd X.K X.mg W (is.reverse ++ own) ol B En (if immD d = true then bindS (unpR is.length d) ρ fun es => (putP i pt (.lst ds.dropLast) ρ).seq fun ρ' => .nx (putAll is es ρ') else .st) := q
        by_cases hm : immD d = true
        rotate_left
        · rw [if_neg hm] at q; exact q.elim
        rw [if_pos hm] at q
        obtain ⟨u, hu, ru⟩ := e4.get ed
        have y1 := y.grow s1 (A := []) (fun _ z => nomatch z)
        obtain ⟨d', F', h1, y2⟩ := e5 _ H1 _ vs.dropLast ds.dropLast y1 s1 (fun A r k n m => by
          obtain ⟨A', r', k'⟩ := r.dropLast
          exact ⟨A', r', fun a ha => .inl (k' a ha)⟩)
        refine ⟨.inl ⟨rfl, _, .inl (.inl (s1 _ _ e3))⟩, l, vs, u, rfl, rfl, s1 _ _ e3, by rw [e4.length]; exact hu, ?_⟩
        cases d with
        | tup es =>
          have q : SEnd X.K X.mg W (is.reverse ++ own) ol B En (bindS (if es.length = is.length then .ok es else .st) ρ fun es => (putP i pt (.lst ds.dropLast) ρ).seq fun ρ' => .nx (putAll is es ρ')) := q
          by_cases hl : es.length = is.length
          · rw [if_pos hl, bindS_ok, h1] at q
            have fu := (ru.fu hm).same s1
            cases fu with
            | tup h r =>
              have hlo : ∃ o, H1 l = some o ∧ ¬ Stt o := ⟨_, s1 _ _ e3, fun z => (show False from z)⟩
              refine ⟨_, _, rfl, (upd_seqT hlo h).sq, by rw [r.length, hl, hn], names_put y2 (r.at (fun a ha => nomatch ha) fun b o st hs => upd_stt hlo st hs) (fun a ha => nomatch ha) hl fun σ' F' st' k' => q _ _ ⟨_, _, b.trans (ext_s []), st'⟩ (pn.keep fun j hj => k' j fun m => hj (hpn j m))⟩
          · rw [if_neg hl] at q; exact q.elim
        | _ => exact q.elim
    | _ => exact q.elim⟩
end
theorem vss_st {X : Cx} {W : WX} {own own' : List Nat} {ol : Ol} {st : List Stmt} : VSs X W own own' ol st (fun _ => .st) := ⟨⟨fun pins s σ H D I x => by obtain ⟨_, _, _, _, q⟩ := x; exact q.elim⟩⟩
theorem Cal.at {P : Program} {w : World} {K : PySem.W.Frag} {mg : Str → Option Value} {base : Heap} {x : Str} {ps : List Str} {k k' : Nat} {m : List D → R D} (C : Cal P w K mg base x ps k m) (h : k = k') : Cal P w K mg base x ps k' m := h ▸ C
end Vs

namespace Vs
open PySem PySem.Spec PyProof.Rows L2

/-! ### methods of texts -/
def strsO : List D → Option (List Str)
  | [] => some []
  | .str i :: r => (strsO r).map (i :: ·)
  | _ => none
theorem strsO_map : ∀ ys : List Str, strsO (ys.map D.str) = some ys
  | [] => rfl
  | y :: ys => by rw [List.map_cons, strsO, strsO_map ys]; rfl
theorem strsO_eq : ∀ {xs : List D} {ys : List Str}, strsO xs = some ys → xs = ys.map D.str
  | [], ys, h => by cases h; rfl
  | .str i :: xs, ys, h => by
    rw [strsO] at h
    cases e : strsO xs with
    | none => rw [e] at h; cases h
    | some ms =>
      rw [e] at h
      cases h
      rw [List.map_cons, strsO_eq e]
  | .int _ :: _, _, h => by cases h
  | .non :: _, _, h => by cases h
  | .bl _ :: _, _, h => by cases h
  | .lst _ :: _, _, h => by cases h
  | .tup _ :: _, _, h => by cases h
  | .dic _ _ _ :: _, _, h => by cases h
  | .fn _ :: _, _, h => by cases h
  | .exc _ _ :: _, _, h => by cases h
  | .obj _ _ _ :: _, _, h => by cases h
theorem rds_strs {K : PySem.W.Frag} {H : Hp} : ∀ {ys : List Str} {vs : List V}, Rds K H vs (ys.map D.str) → vs = ys.map V.str
  | [], vs, r => by cases r; rfl
  | y :: ys, vs, r => by
    cases r with
    | cons h r => cases h; rw [rds_strs r]; rfl
def m1E (g : Str → D → R D) (f h : Env → R D) (ρ : Env) : R D := (f ρ).bind fun d => match d with
  | .str a => (h ρ).bind (g a)
  | _ => .st
def m0E (g : Str → R D) (f : Env → R D) (ρ : Env) : R D := (f ρ).bind fun d => match d with
  | .str a => g a
  | _ => .st
def joinG (a : Str) : D → R D
  | .lst xs => match strsO xs with
    | some ys => if (ys.map (·.length)).sum + ys.length * a.length ≤ 16777216 then .ok (.str (Txt.join a ys)) else .st
    | none => .st
  | .tup xs => match strsO xs with
    | some ys => if (ys.map (·.length)).sum + ys.length * a.length ≤ 16777216 then .ok (.str (Txt.join a ys)) else .st
    | none => .st
  | _ => .st
def splitG (a : Str) : D → R D
  | .str b => if (b.length == 0) = false ∧ a.length + 2 ≤ sizeLine then .ok (.lst ((Txt.split a b).map D.str)) else .st
  | _ => .st
def startsG (a : Str) : D → R D
  | .str b => .ok (.bl (Txt.startswith a b))
  | _ => .st
def findG (a : Str) : D → R D
  | .str b => .ok (.int (Txt.find a b))
  | _ => .st
def countG (a : Str) : D → R D
  | .str b => .ok (.int (Txt.count a b))
  | _ => .st
/-- a method's rule over data -/
def MtD (X : Cx) (r : V → List V → Hp → VK → Prop) (g : Str → D → R D) : Prop := ∀ (a : Str) (v : V) (d : D) (H : Hp) (Q : VK) (z : D), Rd X.K H v d → g a d = .ok z → (∀ v H' A, Same H H' → Fu X.K H' v z A → (∀ a ∈ A, H a = none) → Q v H') → r (.str a) [v] H Q
section
variable {X : Cx} {W : WX} {o e : Expr} {f h : Env → R D} {g : Str → D → R D} {r : V → List V → Hp → VK → Prop} {id : String} {name : Str} {apos pos : Pos}
theorem vg_m1 (slot : Slot "str" name id) (ty : typeOf (.builtin id) = pure (.type "method_descriptor")) (rule : MtR X id r) (k : MtD X r g) (n : ∀ a d c, g a d ≠ .ex c) (ho : VE X W o f) (he : VE X W e h)
    (hs : starEach [e] X.env = [(false, eval e X.env)] := by rfl) (hbase : attributeBase o name X.env (eval o X.env) = eval o X.env := by rfl) (hline : (apos.endLine == pos.line) = true := by rfl) :
    VG X W (.Call (.Attribute o name apos) [e] [] pos) (m1E g f h) := ⟨peW (pe_m1 slot ty rule ho.pe he.pe hs hbase hline) fun σ H Q ⟨ρ, re, q⟩ => ⟨ρ, re, (Out.bind q).mono fun d _ q v H1 s1 r1 => by
  cases d with
  | str a =>
    cases r1
    refine ⟨⟨a, rfl⟩, ρ, re.mono s1, ((Out.bind (show Out X.mg W σ H ((h ρ).bind (g a)) _ from q)).up s1).mono fun e _ q w H2 s2 r2 => ?_⟩
    cases hz : g a e with
    | ok z =>
      rw [hz] at q
      exact k a w e H2 Q z r2 hz fun u H3 A s3 f3 n3 => q u H3 A ((s1.trans s2).trans s3) f3 fun a ha => (s1.trans s2).free (n3 a ha)
    | ex c => exact absurd hz (n a e c)
    | st => rw [hz] at q; exact q.elim
  | _ => exact q.elim⟩⟩
theorem ld_strs {K : PySem.W.Frag} {H : Hp} {ys : List Str} : ∀ {p : Addr}, H p = none → Fu K (upd H p (.lst (ys.map V.str))) (.ref p) (.lst (ys.map D.str)) [p] := fun hp =>
  fu_new_lst hp (by
    induction ys with
    | nil => exact .nil
    | cons y ys ih => exact .cons (.str y) ih) (by
    induction ys with
    | nil => rfl
    | cons y ys ih => rw [List.map_cons, immDs, immD, ih]; rfl)
theorem md_join : MtD X (fun x xs H Q => ∃ a p, ∃ ys : List Str, x = .str a ∧ xs = [.ref p] ∧ (SqL X.K H p (ys.map V.str) ∨ SqT X.K H p (ys.map V.str)) ∧ (ys.map (·.length)).sum + ys.length * a.length ≤ 16777216 ∧ Q (.str (Txt.join a ys)) H) joinG := fun a v d H Q z rd hz q => by
  unfold joinG at hz
  split at hz
  · rename_i xs
    split at hz
    · rename_i ys hs
      split at hz
      · rename_i c
        cases hz
        cases rd with
        | lst h1 r1 =>
          have e := strsO_eq hs
          subst e
          have ev := rds_strs r1
          subst ev
          exact ⟨_, _, ys, rfl, rfl, .inl h1, c, q _ H [] (Same.refl H) (.str _) (fun _ h => nomatch h)⟩
      · cases hz
    · cases hz
  · rename_i xs
    split at hz
    · rename_i ys hs
      split at hz
      · rename_i c
        cases hz
        cases rd with
        | tup h1 r1 =>
          have e := strsO_eq hs
          subst e
          have ev := rds_strs r1
          subst ev
          exact ⟨_, _, ys, rfl, rfl, .inr h1.sq, c, q _ H [] (Same.refl H) (.str _) (fun _ h => nomatch h)⟩
      · cases hz
    · cases hz
  · cases hz
theorem mn_join : ∀ a d c, joinG a d ≠ .ex c := fun a d c h => by
  unfold joinG at h
  repeat' split at h
  all_goals cases h
theorem md_split : MtD X (fun x xs H Q => ∃ a b, x = .str a ∧ xs = [.str b] ∧ (b.length == 0) = false ∧ a.length + 2 ≤ sizeLine ∧ rNewStrs (Txt.split a b) H Q) splitG := fun a v d H Q z rd hz q => by
  unfold splitG at hz
  split at hz
  · split at hz
    · rename_i c
      cases hz
      cases rd
      exact ⟨_, _, rfl, rfl, c.1, c.2, fun p hp => q _ _ [p] (new_same hp) (ld_strs hp) fun a ha => by rw [List.mem_singleton.mp ha]; exact hp⟩
    · cases hz
  · cases hz
theorem mn_split : ∀ a d c, splitG a d ≠ .ex c := fun a d c h => by
  unfold splitG at h
  repeat' split at h
  all_goals cases h
end
end Vs

namespace Vs
open PySem PySem.Spec PyProof.Rows L2

/-! ### tuples of ints in order -/
def ltT : D → D → R D
  | .tup xs, .tup ys => match intsO xs, intsO ys with
    | some ns, some ms => .ok (.bl (HT.lexLt ns ms))
    | _, _ => .st
  | _, _ => .st
theorem nx_ltT : NoEx2 ltT := fun d e c h => by
  unfold ltT at h
  repeat' split at h
  all_goals cases h
section
variable {X : Cx}
theorem d_ltT : OpD X (rLtT X.K) ltT := fun x y d e H Q z rx ry h q => by
  unfold ltT at h
  split at h
  · split at h
    · rename_i ns ms e1 e2
      cases h
      cases rx with
      | tup h1 r1 =>
        cases ry with
        | tup h2 r2 =>
          have v1 := intsO_rd e1 r1
          have v2 := intsO_rd e2 r2
          subst v1 v2
          exact ⟨_, _, ns, ms, rfl, rfl, h1.sq, h2.sq, q _ H [] (Same.refl H) (.bl _) (fun _ h => nomatch h)⟩
    · cases h
  · cases h
end
end Vs

namespace Vs
open PySem PySem.Spec PyProof.Rows L2

/-! ### a sign so many times -/
def repSign (c n : Nat) : Str := ⟨(List.replicate n c).toArray⟩
theorem fold_sign (c : Nat) : ∀ (n : Nat) (acc : List Nat), (List.replicate n #[c]).foldl (· ++ ·) acc.toArray = (acc ++ List.replicate n c).toArray
  | 0, acc => by simp
  | n + 1, acc => by
    rw [List.replicate_succ, List.foldl_cons, List.replicate_succ]
    have h := fold_sign c n (acc ++ [c])
    rw [show (acc.toArray ++ #[c]) = (acc ++ [c]).toArray by simp]
    rw [h, List.append_assoc]
    rfl
section
variable {X : Cx}
def rMulS : R2 := fun x y H Q => ∃ c i, x = .str ⟨#[c]⟩ ∧ y = .int i ∧ 0 ≤ i ∧ i ≤ 16000000 ∧ Q (.str (repSign c i.toNat)) H
theorem op_mulS : OpR X (binaryOp .Mult) rMulS := by
  intro pins s σ H x y v u Q I rx ry h
  obtain ⟨c, i, rfl, rfl, h0, h1, q⟩ := h
  obtain ⟨t, rfl⟩ := rx
  obtain ⟨t', rfl⟩ := ry
  have hi : (decide (i < -(2 ^ 63 : Int)) || decide (i ≥ 2 ^ 63)) = false := by
    have e63 : (2 : Int) ^ 63 = 9223372036854775808 := by decide
    rw [e63, decide_eq_false (by omega), decide_eq_false (by omega)]
    rfl
  have hl : (⟨#[c]⟩ : Str).length = 1 := rfl
  refine P.mul_str hi (fun a b => ?_) (fun a b => ?_) ?_
  · rw [hl]
    have e63 : (2 : Int) ^ 63 = 9223372036854775808 := by decide
    rw [e63]
    have : 1 ≤ (9223372036854775808 - 1) / i := by
      refine (Int.le_ediv_iff_mul_le (by omega)).mpr ?_
      omega
    omega
  · rw [hl, Nat.one_mul]
    unfold Builtin.Str.tooLong
    first
      | exact decide_eq_false (by have : sizeLine = 16777216 := by decide
                                  omega)
      | simp
  · by_cases a : i < 1
    · rw [if_pos a]
      have e : i.toNat = 0 := by omega
      rw [e] at q
      exact ⟨by decide, ⟨.str _, H, I.tok _, ⟨_, rfl⟩, q⟩⟩
    · rw [if_neg a]
      by_cases b : (i == 1 || (⟨#[c]⟩ : Str).length == 0) = true
      · rw [if_pos b]
        have e : i = 1 := by
          rw [hl] at b
          simpa using b
        subst e
        exact ⟨.str _, H, I, ⟨_, rfl⟩, q⟩
      · rw [if_neg b]
        have e := fold_sign c i.toNat []
        rw [List.nil_append] at e
        have e : (List.replicate i.toNat #[c]).foldl (· ++ ·) #[] = (List.replicate i.toNat c).toArray := e
        show Made.post _ _ _
        simp only [e]
        refine ⟨?_, ⟨.str _, H, I.tok _, ⟨_, rfl⟩, q⟩⟩
        show (List.replicate i.toNat c).toArray.size ≤ sizeLine
        rw [List.size_toArray, List.length_replicate, sizeLine_eq]
        omega
def mulSD : D → D → R D
  | .str x, .int i => match x.cps.toList with
    | [c] => if 0 ≤ i ∧ i ≤ 16000000 then .ok (.str (repSign c i.toNat)) else .st
    | _ => .st
  | _, _ => .st
theorem nx_mulS : NoEx2 mulSD := fun d e c h => by
  unfold mulSD at h
  repeat' split at h
  all_goals cases h
theorem d_mulS : OpD X rMulS mulSD := fun x y d e H Q z rx ry h q => by
  unfold mulSD at h
  split at h
  · rename_i x0 i0
    split at h
    · rename_i c hc
      split at h
      · rename_i b
        cases h
        cases rx
        cases ry
        obtain ⟨⟨l⟩⟩ := x0
        simp only at hc
        subst hc
        exact ⟨c, _, rfl, rfl, b.1, b.2, q _ H [] (Same.refl H) (.str _) (fun _ h => nomatch h)⟩
      · cases h
    · cases h
  · cases h
end
end Vs

namespace Vs
open PySem PySem.Spec PyProof.Rows L2

/-! ### dicts -/
def keyO : D → Option Key
  | .int i => some (.inl i)
  | .str x => some (.inr x)
  | _ => none
def keysO : List D → Option (List Key)
  | [] => some []
  | d :: ds => match keyO d, keysO ds with
    | some k, some ks => some (k :: ks)
    | _, _ => none
/-- a key: a tuple or not -/
def keyA : D → Option (Bool × List Key)
  | .tup xs => (keysO xs).map fun l => (true, l)
  | d => (keyO d).map fun k => (false, [k])
theorem keyO_D (k : Key) : keyO (keyD k) = some k := by cases k <;> rfl
theorem keysO_D : ∀ l : List Key, keysO (l.map keyD) = some l
  | [] => rfl
  | k :: l => by rw [List.map_cons, keysO, keyO_D, keysO_D l]
theorem keyA_k (k : Key) : keyA (keyD k) = some (false, [k]) := by cases k <;> rfl
theorem keyA_t (l : List Key) : keyA (.tup (l.map keyD)) = some (true, l) := by
  show (keysO (l.map keyD)).map _ = _
  rw [keysO_D]
  rfl
theorem keyO_eq {d : D} {k : Key} (h : keyO d = some k) : d = keyD k := by
  unfold keyO at h
  split at h <;> first | (cases h; rfl) | cases h
theorem keysO_eq : ∀ {ds : List D} {l : List Key}, keysO ds = some l → ds = l.map keyD
  | [], l, h => by cases h; rfl
  | d :: ds, l, h => by
    rw [keysO] at h
    cases e1 : keyO d with
    | none => rw [e1] at h; cases h
    | some k =>
      cases e2 : keysO ds with
      | none => rw [e1, e2] at h; cases h
      | some ks =>
        rw [e1, e2] at h
        cases h
        rw [List.map_cons, ← keyO_eq e1, ← keysO_eq e2]
theorem keyA_f {d : D} {l : List Key} (h : keyA d = some (false, l)) : ∃ k, d = keyD k ∧ l = [k] := by
  unfold keyA at h
  split at h
  · cases e : keysO _ with
    | none => rw [e] at h; cases h
    | some z => rw [e] at h; cases h
  · cases e : keyO d with
    | none => rw [e] at h; cases h
    | some k => rw [e] at h; cases h; exact ⟨k, keyO_eq e, rfl⟩
theorem keyA_tt {d : D} {l : List Key} (h : keyA d = some (true, l)) : d = .tup (l.map keyD) := by
  unfold keyA at h
  split at h
  · rename_i xs
    cases e : keysO xs with
    | none => rw [e] at h; cases h
    | some z => rw [e] at h; cases h; rw [keysO_eq e]
  · cases e : keyO d with
    | none => rw [e] at h; cases h
    | some k => rw [e] at h; cases h
/-- what stands under a key -/
def findD (q : Bool × List Key) : List D → List D → Option D
  | k :: ks, v :: vs => if keyA k = some q then some v else findD q ks vs
  | _, _ => none
/-- the values behind d[q] = d, where q is there -/
def replD (q : Bool × List Key) (d : D) : List D → List D → List D
  | k :: ks, v :: vs => (if keyA k = some q then d else v) :: replD q d ks vs
  | _, vs => vs
def hasD (q : Bool × List Key) (ks : List D) : Bool := ks.any fun k => decide (keyA k = some q)
def dgetQ (t : Bool) (ks vs : List D) : Option (Bool × List Key) → R (Option D)
  | some q => if q.1 = t ∧ (t = true → q.2.length = 2) then .ok (findD q ks vs) else .st
  | none => .st
def dgetR (d k : D) : R (Option D) := match d with
  | .dic t ks vs => dgetQ t ks vs (keyA k)
  | _ => .st
theorem dgetR_nx {d k : D} {c : Str} : dgetR d k ≠ .ex c := fun h => by
  unfold dgetR at h
  cases d with
  | dic t ks vs =>
    cases e : keyA k with
    | none => simp only [e] at h; cases h
    | some q =>
      simp only [e, dgetQ] at h
      split at h <;> cases h
  | _ => cases h
section
variable {K : PySem.W.Frag} {H : Hp}
theorem rd_key {v : V} (k : Key) (r : Rd K H v (keyD k)) : v = kV k := by
  cases k with
  | inl i => cases r; rfl
  | inr x => cases r; rfl
theorem noref {l : List Key} : ¬ ∃ b, V.ref b ∈ l.map kV := fun ⟨b, h⟩ => by
  obtain ⟨k, _, e⟩ := List.mem_map.mp h
  cases k <;> cases e
theorem rds_keys : ∀ {l : List Key} {vs : List V}, Rds K H vs (l.map keyD) → vs = l.map kV
  | [], vs, r => by cases r; rfl
  | k :: l, vs, r => by
    cases r with
    | cons h r => rw [rd_key k h, rds_keys r]; rfl
theorem find_k {k : Key} : ∀ {kvs : List (Key × V)} {ds : List D}, Rds K H (kvs.map (·.2)) ds → match findD (false, [k]) (kvs.map fun p => keyD p.1) ds with
    | some d => ∃ v, valV kvs k = some v ∧ Rd K H v d
    | none => valV kvs k = none
  | [], ds, r => by cases r; rfl
  | p :: r, ds, h => by
    cases h with
    | @cons v vs d ds h1 h2 =>
      rw [List.map_cons, findD, keyA_k]
      by_cases e : p.1 = k
      · rw [if_pos (by rw [e]), valV_pos e]
        exact ⟨_, rfl, h1⟩
      · rw [if_neg (fun z => e (by injection z with z; injection z with _ z; injection z)), valV_neg e]
        exact find_k h2
theorem find_t {k : List Key} : ∀ {kvs : List (List Key × V)} {ds : List D}, Rds K H (kvs.map (·.2)) ds → match findD (true, k) (kvs.map fun p => D.tup (p.1.map keyD)) ds with
    | some d => ∃ v, valV kvs k = some v ∧ Rd K H v d
    | none => valV kvs k = none
  | [], ds, r => by cases r; rfl
  | p :: r, ds, h => by
    cases h with
    | @cons v vs d ds h1 h2 =>
      rw [List.map_cons, findD, keyA_t]
      by_cases e : p.1 = k
      · rw [if_pos (by rw [e]), valV_pos e]
        exact ⟨_, rfl, h1⟩
      · rw [if_neg (fun z => e (by injection z with z; injection z with _ z)), valV_neg e]
        exact find_t h2
/-- d[k] by data -/
theorem dget_of {x y : V} {d k : D} {o : Option D} (rx : Rd K H x d) (ry : Rd K H y k) (h : dgetR d k = .ok o) : ∃ a ov, x = .ref a ∧ DGet H a y ov ∧ (∀ e, o = some e → ∃ v, ov = some v ∧ Rd K H v e) ∧ (o = none → ov = none) := by
  have fin : ∀ {f : Option D} {ov : Option V}, (match f with | some d => ∃ v, ov = some v ∧ Rd K H v d | none => ov = none) → f = o → (∀ e, o = some e → ∃ v, ov = some v ∧ Rd K H v e) ∧ (o = none → ov = none) := fun {f ov} hm e => by
    subst e
    cases f with
    | none => exact ⟨(fun e z => nomatch z), fun _ => hm⟩
    | some d => exact ⟨(fun e z => by cases z; exact hm), (fun z => nomatch z)⟩
  cases d with
  | dic t ks vs =>
    have h : dgetQ t ks vs (keyA k) = .ok o := h
    cases hq : keyA k with
    | none => rw [hq] at h; cases h
    | some q =>
      rw [hq] at h
      obtain ⟨qt, ql⟩ := q
      have h5 : (if qt = t ∧ (t = true → ql.length = 2) then R.ok (findD (qt, ql) ks vs) else .st) = .ok o := h
      by_cases ht : qt = t ∧ (t = true → ql.length = 2)
      · rw [if_pos ht] at h5
        obtain ⟨ht, h2l⟩ := ht
        subst ht
        have h6 : findD (qt, ql) ks vs = o := R.ok.inj h5
        clear h h5
        cases rx with
        | @dk a kvs _ _ h1 h2 h3 =>
          subst h2
          obtain ⟨key, e1, e2⟩ := keyA_f hq
          subst e1 e2
          have ey := rd_key key ry
          subst ey
          exact ⟨a, valV kvs key, rfl, DGet.k h1, fin (find_k (k := key) h3) h6⟩
        | @dt a kvs _ _ h1 h2 h3 =>
          subst h2
          have e1 := keyA_tt hq
          subst e1
          cases ry with
          | @tup b ws _ hb rb =>
            have ew := rds_keys rb
            subst ew
            rcases hb with hb | ⟨_, _, _, _, _, _, _, _, ne⟩
            · exact ⟨a, valV kvs ql, rfl, DGet.t h1 hb, fin (find_t (k := ql) h3) h6⟩
            · exact ne.elim (fun ne => absurd (by simpa using h2l rfl) ne) fun z => (noref z).elim
      · rw [if_neg ht] at h5; cases h5
  | _ => cases h
end
def dgetD (d k : D) : R D := (dgetR d k).bind fun o => match o with
  | some e => .ok e
  | none => .st
def dinD (k d : D) : R D := (dgetR d k).bind fun o => .ok (.bl o.isSome)
def dninD (k d : D) : R D := (dgetR d k).bind fun o => .ok (.bl (!o.isSome))
section
variable {X : Cx} {W : WX} {a b : Expr} {f g : Env → R D} {pos : Pos}
theorem vg_dnewK : VG X W (.Dict [] [] pos) (cE (.dic false [] [])) := ⟨peW pe_dnewK fun σ H Q ⟨ρ, re, o⟩ p hp => o (.ref p) _ [p] (new_same hp) (.dk upd_same rfl .nil (fun z => nomatch z)) fun a m => by rw [List.mem_singleton.mp m]; exact hp⟩
theorem vg_dnewT : VG X W (.Dict [] [] pos) (cE (.dic true [] [])) := ⟨peW pe_dnewT fun σ H Q ⟨ρ, re, o⟩ p hp => o (.ref p) _ [p] (new_same hp) (.dt upd_same rfl .nil (fun z => nomatch z)) fun a m => by rw [List.mem_singleton.mp m]; exact hp⟩
theorem ve_dget (hu : X.A.units + 1 < cLine) (ha : VE X W a f) (hb : VE X W b g) (hs : NoSl b) : VE X W (.Subscript a b pos) (op2 dgetD f g) :=
  ⟨peW (pe_dget hu ha.pe hb.pe hs) fun σ H Q ⟨ρ, re, o⟩ => ⟨ρ, re, (Out.bind o).mono fun d _ q v H1 s1 r1 => ⟨ρ, re.mono s1, ((Out.bind q).up s1).mono fun k _ q w H2 s2 r2 => by
    unfold dgetD at q
    cases hg : dgetR d k with
    | st => rw [hg] at q; exact q.elim
    | ex c => exact absurd hg dgetR_nx
    | ok o =>
      rw [hg] at q
      obtain ⟨p, ov, rfl, h1, h2, _⟩ := dget_of (r1.mono s2) r2 hg
      cases o with
      | none => exact q.elim
      | some e =>
        obtain ⟨u, rfl, h3⟩ := h2 e rfl
        exact ⟨p, u, rfl, h1, q u H2 (s1.trans s2) h3⟩⟩⟩⟩
theorem tDin_of {neg : Bool} {σ : L2.St} {H : Hp} {Q : VK} {h : D → D → R D} (hh : ∀ k d, h k d = (dgetR d k).bind fun o => .ok (.bl (if neg then !o.isSome else o.isSome))) (q : tG X.K X.mg W (op2 h f g) σ H Q) :
    tF X.K X.mg W f σ H fun y H1 => tF X.K X.mg W g σ H1 fun x H2 => ∃ a o, x = .ref a ∧ DGet H2 a y o ∧ Q (.bl (if neg then !o.isSome else o.isSome)) H2 := by
  obtain ⟨ρ, re, o⟩ := q
  refine ⟨ρ, re, (Out.bind o).mono fun k _ q v H1 s1 r1 => ⟨ρ, re.mono s1, ((Out.bind q).up s1).mono fun d _ q w H2 s2 r2 => ?_⟩⟩
  rw [hh] at q
  cases hg : dgetR d k with
  | st => rw [hg] at q; exact q.elim
  | ex c => exact absurd hg dgetR_nx
  | ok o =>
    rw [hg] at q
    obtain ⟨p, ov, rfl, h1, h2, h3⟩ := dget_of r2 (r1.mono s2) hg
    refine ⟨p, ov, rfl, h1, ?_⟩
    have e : ov.isSome = o.isSome := by
      cases o with
      | none => rw [h3 rfl]; rfl
      | some e =>
        obtain ⟨u, rfl, _⟩ := h2 e rfl
        rfl
    rw [e]
    exact q _ H2 [] (s1.trans s2) (.bl _) (fun _ h => nomatch h)
theorem vt_din (hu : X.A.units + 1 < cLine) (ha : VE X W a f) (hb : VE X W b g) (hm : behindInMarks .In b = false) : VT X W (.Compare a [.In] [b] pos) (boolR (op2 dinD f g)) :=
  ⟨ptW (pt_cmp (pc_din hu ha.pe hb.pe) hm) fun σ H Q ⟨ρ, re, o⟩ => tDin_of (neg := false) (h := dinD) (Q := fun v H' => ∃ k, v = .bl k ∧ Q k H') (fun _ _ => rfl) ⟨ρ, re, (boolR_out o).mono fun d _ ⟨k, e, q⟩ v H1 A s1 f1 n1 => by subst e; cases f1; exact ⟨k, rfl, q H1 s1⟩⟩⟩
theorem vt_dnin (hu : X.A.units + 1 < cLine) (ha : VE X W a f) (hb : VE X W b g) (hm : behindInMarks .NotIn b = false) : VT X W (.Compare a [.NotIn] [b] pos) (boolR (op2 dninD f g)) :=
  ⟨ptW (pt_cmp (pc_dnotin hu ha.pe hb.pe) hm) fun σ H Q ⟨ρ, re, o⟩ => tDin_of (neg := true) (h := dninD) (Q := fun v H' => ∃ k, v = .bl k ∧ Q k H') (fun _ _ => rfl) ⟨ρ, re, (boolR_out o).mono fun d _ ⟨k, e, q⟩ v H1 A s1 f1 n1 => by subst e; cases f1; exact ⟨k, rfl, q H1 s1⟩⟩⟩
end

/-! ### d[k] = e -/
def dputD (t : Bool) (ks vs : List D) (q : Bool × List Key) (k d : D) : D := if hasD q ks = true then .dic t ks (replD q d ks vs) else .dic t (ks ++ [k]) (vs ++ [d])
def dputQ (i : Nat) (p : List Nat) (t : Bool) (ks vs : List D) (k d : D) (ρ : Env) : Option (Bool × List Key) → Sr
  | some q => if q.1 = t ∧ immD d = true ∧ vs.length < sizeLine ∧ (t = true → q.2.length = 2) then putP i p (dputD t ks vs q k d) ρ else .st
  | none => .st
def dputS (i : Nat) (fp : Env → R (List Nat)) (fk fe : Env → R D) (ρ : Env) : Sr := bindS (fe ρ) ρ fun d => bindS (fp ρ) ρ fun p => match atP i p ρ with
  | some (.dic t ks vs) => bindS (fk ρ) ρ fun k => dputQ i p t ks vs k d ρ (keyA k)
  | _ => .st
section
variable {κ : Type} [DecidableEq κ] {enc : κ → D} {k : κ} {q : Bool × List Key}
theorem hasD_any (hq : ∀ k', keyA (enc k') = some q ↔ k' = k) : ∀ kvs : List (κ × V), hasD q (kvs.map fun p => enc p.1) = kvs.any fun kv => decide (kv.1 = k)
  | [] => rfl
  | p :: r => by
    have ih := hasD_any hq r
    unfold hasD at ih ⊢
    rw [List.map_cons, List.any_cons, List.any_cons, ih]
    congr 1
    by_cases e : p.1 = k
    · rw [decide_eq_true e, decide_eq_true ((hq _).mpr e)]
    · rw [decide_eq_false e, decide_eq_false (fun z => e ((hq _).mp z))]
theorem fus_repl {K : PySem.W.Frag} {H : Hp} {v : V} {d : D} (hq : ∀ k', keyA (enc k') = some q ↔ k' = k) (f : Fu K H v d []) : ∀ {kvs : List (κ × V)} {ds : List D} {A : List Addr}, Fus K H (kvs.map (·.2)) ds A →
    ∃ A', Fus K H ((kvs.map fun kv => if kv.1 = k then (kv.1, v) else kv).map (·.2)) (replD q d (kvs.map fun p => enc p.1) ds) A' ∧ ∀ a ∈ A', a ∈ A
  | [], ds, A, r => by cases r; exact ⟨[], .nil, fun _ h => h⟩
  | p :: r, ds, A, h => by
    rw [List.map_cons] at h
    cases h with
    | @cons _ _ e es A1 A2 h1 h2 m =>
      obtain ⟨A', g, sub⟩ := fus_repl hq f h2
      rw [List.map_cons, List.map_cons, List.map_cons, replD]
      by_cases e1 : p.1 = k
      · rw [if_pos e1, if_pos ((hq _).mpr e1)]
        exact ⟨[] ++ A', .cons f g (fun _ z => nomatch z), fun a ha => List.mem_append_right _ (sub a ha)⟩
      · rw [if_neg e1, if_neg (fun z => e1 ((hq _).mp z))]
        refine ⟨A1 ++ A', .cons h1 g fun x hx hy => m x hx (sub x hy), fun a ha => ?_⟩
        rcases List.mem_append.mp ha with z | z
        · exact List.mem_append_left _ z
        · exact List.mem_append_right _ (sub a z)
theorem fus_put {K : PySem.W.Frag} {H : Hp} {v : V} {d : D} (hq : ∀ k', keyA (enc k') = some q ↔ k' = k) (f : Fu K H v d []) {kvs : List (κ × V)} {ds : List D} {A : List Addr} (h : Fus K H (kvs.map (·.2)) ds A) (t : Bool) :
    ∃ ks' ds' A', dputD t (kvs.map fun p => enc p.1) ds q (enc k) d = .dic t ks' ds' ∧ ks' = (putK kvs k v).map (fun p => enc p.1) ∧ Fus K H ((putK kvs k v).map (·.2)) ds' A' ∧ ∀ a ∈ A', a ∈ A := by
  unfold dputD putK
  rw [hasD_any hq]
  by_cases e : (kvs.any fun kv => decide (kv.1 = k)) = true
  · rw [if_pos e, if_pos e]
    obtain ⟨A', g, sub⟩ := fus_repl (q := q) (d := d) hq f h
    refine ⟨_, _, A', rfl, ?_, g, sub⟩
    rw [List.map_map]
    refine List.map_congr_left fun p _ => ?_
    show enc p.1 = enc (if p.1 = k then (p.1, v) else p).1
    split <;> rfl
  · rw [if_neg e, if_neg e]
    refine ⟨_, _, A ++ ([] ++ []), rfl, by rw [List.map_append]; rfl, ?_, fun a ha => by simpa using ha⟩
    rw [List.map_append]
    exact h.app (.cons f .nil fun _ z => nomatch z) fun _ _ z => nomatch z
end
theorem hqk (k : Key) : ∀ k', keyA (keyD k') = some (false, [k]) ↔ k' = k := fun k' => by
  rw [keyA_k]
  constructor
  · intro h
    injection h with h
    injection h with _ h
    injection h
  · intro h
    rw [h]
theorem hqt (l : List Key) : ∀ l', keyA (.tup (l'.map keyD)) = some (true, l) ↔ l' = l := fun l' => by
  rw [keyA_t]
  constructor
  · intro h
    injection h with h
    injection h
  · intro h
    rw [h]
section
variable {X : Cx} {W : WX} {own own' : List Nat} {ol : Ol} {i : Nat} {f fk fe : Env → R D} {fp : Env → R (List Nat)} {st : Stmt}
theorem vs_dput (p : PS X st (sDPut (tL X.K X.mg W own i fp) (tF X.K X.mg W fk) (tG X.K X.mg W fe))) (hi : i ∈ own := by decide) (we : ∀ i ∈ ol.e, i ∈ own := by first | decide | (dsimp only; decide)) : VS X W own own ol st (dputS i fp fk fe) := ⟨psW p fun En σ H ⟨B, ρ, x, pn, q⟩ => by
  unfold dputS at q
  have q := SEnd.out x pn we q
  obtain ⟨S, F, b, y⟩ := x
  refine ⟨ρ, y.env, q.mono fun d _ q u H1 C s1 f1 n1 => ?_⟩
  have y1 := y.grow s1 (A := []) (fun _ z => nomatch z)
  have b1 := b.trans (ext_s (S := S) (H := H1) [])
  have q := SEnd.out (own' := own) (σ := σ) (H := H1) ⟨_, _, b1, y1⟩ pn we q
  refine ⟨ρ, _, _, y1, hi, q.mono fun pt _ q => ?_⟩
  cases ha : atP i pt ρ with
  | none => rw [ha] at q; exact q.elim
  | some d0 =>
    rw [ha] at q
    cases d0 with
    | dic t ks vs =>
      obtain ⟨dd, hd, hg⟩ := atP_some ha
      refine ⟨⟨dd, _, hd, hg⟩, fun v w H2 hv s2 nv => ?_⟩
      have y2 := y1.grow s2 (A := []) (fun _ z => nomatch z)
      have b2 := b1.trans (ext_s (S := _) (H := H2) [])
      have q := SEnd.out (own' := own) (σ := σ) (H := H2) ⟨_, _, b2, y2⟩ pn we (show SEnd X.K X.mg W own ol B En (bindS (fk ρ) ρ _) from q)
      refine ⟨ρ, y2.env, q.mono fun k _ q kv H3 s3 rk => ?_⟩
      have y3 := y2.grow s3 (A := []) (fun _ z => nomatch z)
      have b3 := b2.trans (ext_s (S := _) (H := H3) [])
      cases hk : keyA k with
      | none => rw [hk] at q; exact q.elim
      | some kq =>
        rw [hk] at q
        have q : SEnd X.K X.mg W own ol B En (if kq.1 = t ∧ immD d = true ∧ vs.length < sizeLine ∧ (t = true → kq.2.length = 2) then putP i pt (dputD t ks vs kq k d) ρ else .st) := q
        by_cases c : kq.1 = t ∧ immD d = true ∧ vs.length < sizeLine ∧ (t = true → kq.2.length = 2)
        rotate_left
        · rw [if_neg c] at q; exact q.elim
        rw [if_pos c] at q
        obtain ⟨c1, c2, c3, c4⟩ := c
        have fd : Fu X.K H3 u d [] := ((f1.rd.mono s2).mono s3).fu c2
        obtain ⟨v', w', A, g1, g2, g3, g4, g5⟩ := y3.place hi hd hg
        rw [hv] at g1
        cases g1
        have ew := navH_fun (navH_mono s3 nv) g2
        subst ew
        obtain ⟨kt, kl⟩ := kq
        have fin : ∀ (a : Addr) (o' : HO) (e' : D) (A1 : List Addr), a ∈ A → ¬ Stt o' → dputD t ks vs (kt, kl) k d = e' → Fu X.K (upd H3 a o') w e' A1 → (∀ x ∈ A1, x ∈ A) → En.nx σ (upd H3 a o') := fun a o' e' A1 ha ns he fu sub => by
          obtain ⟨d', F', s4, y4⟩ := g5 a o' e' A1 ha ns fu fun x hx => .inl (sub x hx)
          rw [he] at q
          unfold putP at q
          rw [hd] at q
          simp only [s4] at q
          exact q _ _ ⟨_, _, b3, y4⟩ pn
        cases g3 with
        | @dk a kvs _ _ A1 h1 h2 h3 h4 =>
          subst h2
          have c1 : kt = false := c1
          subst c1
          obtain ⟨key, e1, e2⟩ := keyA_f hk
          subst e1 e2
          have ey := rd_key key rk
          subst ey
          obtain ⟨ks', ds', A', e3, e4, e5, e6⟩ := fus_put (enc := keyD) (k := key) (q := (false, [key])) (hqk key) fd h3 false
          have hao : ∃ o, H3 a = some o ∧ ¬ Stt o := ⟨_, h1, fun z => (show False from z)⟩
          have hlen : kvs.length < sizeLine := by
            have := h3.length
            rw [List.length_map] at this
            omega
          refine ⟨a, _, rfl, DPut.k h1 hlen, fin a (.dK (putK kvs key u)) _ (a :: A') List.mem_cons_self (fun z => (show False from z)) e3 (.dk upd_same e4 (e5.at (fun x hx => upd_ne fun z => h4 (e6 _ (z ▸ hx))) fun b o st hs => upd_stt hao st hs) fun z => h4 (e6 _ z)) fun x hx => ?_⟩
          rcases List.mem_cons.mp hx with z | z
          · rw [z]; exact List.mem_cons_self
          · exact List.mem_cons_of_mem _ (e6 x z)
        | @dt a kvs _ _ A1 h1 h2 h3 h4 =>
          subst h2
          have c1 : kt = true := c1
          subst c1
          have e1 := keyA_tt hk
          subst e1
          cases rk with
          | @tup bb ws _ hb rb =>
            have ews := rds_keys rb
            subst ews
            rcases hb with hb | ⟨_, _, _, _, _, _, _, _, ne⟩
            rotate_left
            · exact ne.elim (fun ne => absurd (by simpa using c4 rfl) ne) fun z => (noref z).elim
            obtain ⟨ks', ds', A', e3, e4, e5, e6⟩ := fus_put (enc := fun l => D.tup (l.map keyD)) (k := kl) (q := (true, kl)) (hqt kl) fd h3 true
            have hao : ∃ o, H3 a = some o ∧ ¬ Stt o := ⟨_, h1, fun z => (show False from z)⟩
            have hlen : kvs.length < sizeLine := by
              have := h3.length
              rw [List.length_map] at this
              omega
            refine ⟨a, _, rfl, DPut.t h1 hb hlen, fin a (.dT (putK kvs kl u)) _ (a :: A') List.mem_cons_self (fun z => (show False from z)) e3 (.dt upd_same e4 (e5.at (fun x hx => upd_ne fun z => h4 (e6 _ (z ▸ hx))) fun b o st hs => upd_stt hao st hs) fun z => h4 (e6 _ z)) fun x hx => ?_⟩
            rcases List.mem_cons.mp hx with z | z
            · rw [z]; exact List.mem_cons_self
            · exact List.mem_cons_of_mem _ (e6 x z)
    | _ => exact q.elim⟩
end
end Vs

namespace Vs
open PySem PySem.Spec PyProof.Rows L2

/-! ### sorted -/
def sortI (ns : List Int) : List Int := ns.mergeSort fun a b => decide (a ≤ b)
theorem sortI_perm (ns : List Int) : (sortI ns).Perm ns := List.mergeSort_perm _ _
theorem sortI_pw (ns : List Int) : (sortI ns).Pairwise (· ≤ ·) := by
  have h := List.pairwise_mergeSort (le := fun a b : Int => decide (a ≤ b)) (fun a b c h1 h2 => by simp at *; omega) (fun a b => by simp; omega) ns
  exact h.imp fun {a b} h => by simpa using h
theorem srt_uniq : ∀ {xs ys : List Int}, xs.Perm ys → xs.Pairwise (· ≤ ·) → ys.Pairwise (· ≤ ·) → xs = ys
  | [], ys, p, _, _ => p.nil_eq
  | x :: xs, ys, p, h1, h2 => by
    cases ys with
    | nil => exact absurd p.symm.nil_eq (by simp)
    | cons y ys =>
      rw [List.pairwise_cons] at h1 h2
      have a1 : x ∈ y :: ys := p.mem_iff.mp List.mem_cons_self
      have a2 : y ∈ x :: xs := p.mem_iff.mpr List.mem_cons_self
      have e : x = y := by
        rcases List.mem_cons.mp a1 with z | z
        · exact z
        · rcases List.mem_cons.mp a2 with z' | z'
          · exact z'.symm
          · exact Int.le_antisymm (h1.1 y z') (h2.1 x z)
      subst e
      rw [srt_uniq (List.Perm.cons_inv p) h1.2 h2.2]
def sortedD : List D → R D
  | [.lst xs] => match intsO xs with
    | some ns => .ok (.lst ((sortI ns).map D.int))
    | none => .st
  | [.dic false ks _] => match intsO ks with
    | some ns => if ns.length ≤ 1000000 then .ok (.lst ((sortI ns).map D.int)) else .st
    | none => .st
  | _ => .st
theorem nx_sorted : NoEx1 sortedD := fun ds c h => by
  unfold sortedD at h
  repeat' split at h
  all_goals cases h
section
variable {X : Cx}
def rSortDA : List V → Hp → VK → Prop := fun xs H Q => ∃ (a : Addr) (kvs : List (Key × V)) (ks : List Int), xs = [.ref a] ∧ L2.Rd H a (.dK kvs) ∧ kvs.map (·.1) = ks.map Sum.inl ∧ ks.length ≤ 1000000 ∧
    ∀ (ys : List Int) (p : Addr), ys.Perm ks → ys.Pairwise (· ≤ ·) → H p = none → Q (.ref p) (upd H p (.lst (ys.map V.int)))
theorem call_sortedDA (hcalm : X.calm = true) : CallR X (.builtin "sorted") rSortDA := by
  intro pins s σ H xs us Q I r q
  obtain ⟨a, kvs, ks, ex, hd, hks, h64, q⟩ := q
  subst ex
  obtain ⟨u, eu, rx⟩ := vals1 r
  subst eu
  cases rx
  obtain ⟨z, lo, vs, rel, dd⟩ := dk_rd I.hok hd
  obtain ⟨ep, hat⟩ := dd.dictAt
  have hkeys : vs.map (·.1) = ks.map Sum.inl := rel.keys.symm.trans hks
  have hl : vs.length = ks.length := by
    have e := congrArg List.length hkeys
    rw [List.length_map, List.length_map] at e
    exact e
  have h16 : vs.length ≤ sizeLine := by rw [hl, sizeLine_eq]; omega
  refine Calls.call_function_entry PyProof.Rows.kind_sorted PyProof.Rows.plain_sorted PyProof.Rows.entry_sorted (PyProof.Rows.args_sorted1 _) ?_
  unfold Builtin.«sorted»
  refine wpAny_bind (m := checkCount "sorted" 1 1 _) (wpAny_pure ?_)
  refine wpAny_bind (PySem.W.kdu_collect (A := X.A.in1) (PySem.W.kdl_dict (knd := mixKind X.prog X.w) (kvs := vs) (ep := ep) lo) (I.ok.hd hcalm) hat h16 fun h' tk acc hk hacc => ?_)
  have hal : acc.toList.length = ks.length := by rw [Array.length_toList, hacc.1, hl]
  have hS : IntsAre acc.toList ks := ints_each hal fun j v e => by
    obtain ⟨k, x, e1, e2⟩ := hacc.2 j v (by rw [← Array.getElem?_toList]; exact e)
    have e3 : (vs.map (·.1))[j]? = some k := by rw [List.getElem?_map, e1]; rfl
    rw [hkeys, List.getElem?_map] at e3
    cases e4 : ks[j]? with
    | none => rw [e4] at e3; cases e3
    | some y =>
      rw [e4] at e3
      have e5 : Sum.inl y = k := Option.some.inj e3
      subst e5
      rcases keyIs_shape (show keyIs (Sum.inl y) v = true from e2) with ⟨i, t, ek, ev⟩ | ⟨z, t, ek, ev⟩
      · cases ek
        exact ⟨y, t, rfl, ev⟩
      · cases ek
  have I1 : Inv X pins σ H { s with heap := h', toks := tk } := I.kept hk
  refine wpAny_bind (wpAny_newList ?_ (by rw [hal, sizeLine_eq]; omega))
  have hoL : (h'.push (seqObj "list" acc.toList.toArray 0)).get? h'.objs.size = some (seqObj "list" acc.toList.toArray 0) := Heap.get?_push_size _ rfl
  show wpAny _ _ _ _ _ { s with heap := h'.push (seqObj "list" acc.toList.toArray 0), toks := tk }
  refine wpAny_bind (wpAny_holding (wpAny_call_entry PyProof.Rows.slot_list_sort ⟨_, hoL, rfl⟩ PyProof.Rows.entry_list_sort
    (SrtO.list_sort_ord (s := { s with heap := h'.push (seqObj "list" acc.toList.toArray 0), toks := tk }) SrtO.swo_int hoL (by rw [hal, sizeLine_eq]; omega) (fun h2 => SrtO.ints_sortable hS h2) fun out g1 g2 => ⟨_, rfl, ?_⟩) (PyProof.Rows.args_list_sort _)))
  obtain ⟨k1, k2, k3⟩ := SrtO.ints_out hS g1 g2
  obtain ⟨e', he'⟩ := PyProof.Rows.sortedHeap_at (vs := acc.toList) (out := out.toArray) hoL
  have hlen : ((out.map SrtO.iv).map V.int).length ≤ sizeLine := by
    rw [List.length_map, k2.length_eq, sizeLine_eq]
    omega
  refine wpAny_pure ⟨_, rfl, .ref h'.objs.size, upd H h'.objs.size (.lst ((out.map SrtO.iv).map V.int)), I1.laid (t' := tk) (fun b u e => ?_) (Nat.le_refl _)
    (show ObjOk X.prog X.w _ _ _ (.lst ((out.map SrtO.iv).map V.int)) from ⟨hlen, out, e', vals_of_ints k1, he'⟩), rfl, q _ _ k2 k3 (I1.hok.fresh (Nat.le_refl _))⟩
  have hb : b < h'.objs.size := Heap.lt_size e
  rw [PyProof.Rows.sortedHeap_old (Nat.ne_of_lt hb) (by rw [size_push']; exact Nat.lt_succ_of_lt hb)]
  exact Heap.get?_push_of_some _ e
def rSortA (K : PySem.W.Frag) : List V → Hp → VK → Prop := fun xs H Q => rSortedI K xs H Q ∨ rSortDA xs H Q
theorem call_sortedA (hc : X.calm = true) : CallR X (.builtin "sorted") (rSortA X.K) := cr_sortedI.or (call_sortedDA hc)
theorem fu_ints {K : PySem.W.Frag} {H : Hp} {p : Addr} (hp : H p = none) (ns : List Int) : Fu K (upd H p (.lst (ns.map V.int))) (.ref p) (.lst (ns.map D.int)) [p] :=
  fu_new_lst hp (by
    induction ns with
    | nil => exact .nil
    | cons n ns ih => exact .cons (.int n) ih) (by
    induction ns with
    | nil => rfl
    | cons n ns ih => rw [List.map_cons, immDs, immD, ih]; rfl)
theorem intsO_keys : ∀ {ks : List Key} {ns : List Int}, intsO (ks.map keyD) = some ns → ks = ns.map Sum.inl
  | [], ns, h => by cases h; rfl
  | .inl i :: ks, ns, h => by
    rw [List.map_cons, keyD, intsO] at h
    cases e : intsO (ks.map keyD) with
    | none => rw [e] at h; cases h
    | some ms =>
      rw [e] at h
      cases h
      rw [List.map_cons, intsO_keys e]
  | .inr x :: ks, ns, h => by cases h
theorem cb_sorted : CbD X (rSortA X.K) sortedD := fun vs ds H Q z r h q => by
  unfold sortedD at h
  split at h
  · obtain ⟨v, rfl, h1⟩ := rds1 r
    split at h
    · rename_i ns e
      cases h
      cases h1 with
      | lst h1 r1 =>
        have ev := intsO_rd e r1
        subst ev
        refine .inl ⟨_, ns, rfl, h1, fun ys p p1 p2 hp => ?_⟩
        have e2 := srt_uniq (p1.trans (sortI_perm ns).symm) p2 (sortI_pw ns)
        rw [e2]
        exact q _ _ [p] (new_same hp) (fu_ints hp _) fun a m => by rw [List.mem_singleton.mp m]; exact hp
    · cases h
  · obtain ⟨v, rfl, h1⟩ := rds1 r
    split at h
    · rename_i ns e
      split at h
      · rename_i c
        cases h
        cases h1 with
        | dk h1 h2 r1 =>
          subst h2
          rw [show (fun (p : Key × V) => keyD p.1) = keyD ∘ (fun p => p.1) from rfl, ← List.map_map] at e
          have ek := intsO_keys e
          refine .inr ⟨_, _, ns, rfl, .inl h1, ek, c, fun ys p p1 p2 hp => ?_⟩
          have e2 := srt_uniq (p1.trans (sortI_perm ns).symm) p2 (sortI_pw ns)
          rw [e2]
          exact q _ _ [p] (new_same hp) (fu_ints hp _) fun a m => by rw [List.mem_singleton.mp m]; exact hp
      · cases h
    · cases h
  · cases h
end
end Vs

namespace Vs
open PySem PySem.Spec PyProof.Rows L2

/-! ### slices with a step -/
def pickN {α : Type} (ix : List Nat) (xs : List α) : List α := ix.filterMap (xs[·]?)
def stIx (n : Nat) (lo hi : Option Int) (k : Int) : List Nat := sliceRange (sliceBounds lo hi (some k) n).1 (sliceBounds lo hi (some k) n).2.1 (sliceBounds lo hi (some k) n).2.2
theorem pickN_cons {α : Type} (i : Nat) (ix : List Nat) (xs : List α) : pickN (i :: ix) xs = match xs[i]? with
  | some x => x :: pickN ix xs
  | none => pickN ix xs := by
  unfold pickN
  rw [List.filterMap_cons]
  cases xs[i]? <;> rfl
theorem vals_none {xs : List V} {us : List Value} {i : Nat} (r : Vals xs us) (h : xs[i]? = none) : us[i]? = none := by
  rw [List.getElem?_eq_none_iff] at h ⊢
  rw [← r.length]
  exact h
theorem vals_pick {xs : List V} {us : List Value} (r : Vals xs us) : ∀ ix : List Nat, Vals (pickN ix xs) (pickN ix us)
  | [] => .nil
  | i :: ix => by
    rw [pickN_cons, pickN_cons]
    cases h : xs[i]? with
    | none => rw [vals_none r h]; exact vals_pick r ix
    | some x =>
      obtain ⟨u, h2, r2⟩ := r.get h
      rw [h2]
      exact .cons r2 (vals_pick r ix)
theorem rds_pick {K : PySem.W.Frag} {H : Hp} {xs : List V} {ds : List D} (r : Rds K H xs ds) : ∀ ix : List Nat, Rds K H (pickN ix xs) (pickN ix ds)
  | [] => .nil
  | i :: ix => by
    rw [pickN_cons, pickN_cons]
    cases h : xs[i]? with
    | none =>
      have h2 : ds[i]? = none := by
        rw [List.getElem?_eq_none_iff] at h ⊢
        rw [← r.length]
        exact h
      rw [h2]
      exact rds_pick r ix
    | some x =>
      obtain ⟨u, h2, r2⟩ := r.getV h
      rw [h2]
      exact .cons r2 (rds_pick r ix)
def rSlK (K : PySem.W.Frag) : V → Option Int → Option Int → Option Int → Hp → VK → Prop := fun x lo hi o H Q => ∃ a xs k, x = .ref a ∧ o = some k ∧ SqL K H a xs ∧ k ≠ 0 ∧ ∀ p, H p = none → Q (.ref p) (upd H p (.lst (pickN (stIx xs.length lo hi k) xs)))
def tSlK (K : PySem.W.Frag) (te : TE) (tl th ts : TO) : TE := fun σ H Q => te σ H fun x H1 => tl σ H1 fun l H2 => th σ H2 fun u H3 => ts σ H3 fun o H4 => rSlK K x l u o H4 Q
theorem pe_sliceK {X : Cx} {e st : Expr} {lo hi : Option Expr} {te : TE} {tl th ts : TO} {p2 pos : Pos} (he : PE X e te) (hl : PO X lo tl) (hu : PO X hi th) (hs : PO X (some st) ts) : PE X (.Subscript e (.Slice lo hi (some st) p2) pos) (tSlK X.K te tl th ts) := by
  refine ⟨fun pins s σ H Q I h => ?_⟩
  refine Subscript_ (thn (he.run pins s σ H _ I h) fun v s1 ⟨x, H1, I1, r1, q1⟩ => ?_)
  refine wpAny_Slice (thn (hl.run pins s1 σ H1 _ I1 q1) fun vl s2 ⟨l, H2, I2, pl, q2⟩ => thn (hu.run pins s2 σ H2 _ I2 q2) fun vu s3 ⟨u, H3, I3, pu, q3⟩ => thn (hs.run pins s3 σ H3 _ I3 q3) fun vs s4 ⟨o, H4, I4, ps, q4⟩ => ?_)
  have I5 : Inv X pins σ H4 { s4 with heap := s4.heap.push { cls := .type "slice", data := .fields #[vl, vu, vs] } } := I4.kept (t' := s4.toks) fun b ob q => Heap.get?_push_of_some _ q
  obtain ⟨a, xs, k, ex, eo, hx, hk, q⟩ := q4
  subst ex
  subst eo
  cases r1
  obtain ⟨its, r, ht, hz⟩ := I5.list hx
  have hlen := r.length
  show wpAny (model X.prog X.w) X.A (subscriptTail e (.Slice lo hi (some st) p2) (.ref a) (.ref s4.heap.objs.size)) (EP X pins σ Q) X.xe { s4 with heap := s4.heap.push { cls := .type "slice", data := .fields #[vl, vu, vs] } }
  refine tail_any (ops := [.ref a, .ref s4.heap.objs.size]) ht.isList.typeIs (PySem.slot_list_getitem.lookup) ?_ (by with_unfolding_all rfl)
  refine wpAny_getItem_list_slice ht.isList (Heap.IsSliceOf.new _ vl vu vs) pl pu ps (fun e => hk (by injection e)) ?_ (by rw [List.size_toArray]; omega)
  have e1 : slicePick its.toArray l u (some k) = (pickN (stIx xs.length l u k) its).toArray := by
    unfold slicePick pickN stIx
    rw [List.size_toArray, ← hlen]
    simp
  have e2 := slicePick_size_le its.toArray l u (some k)
  rw [e1] at e2 ⊢
  rw [List.size_toArray, List.size_toArray, ← (vals_pick r _).length] at e2
  refine ⟨.ref _, _, I5.laid (t' := s4.toks) (o := .lst (pickN (stIx xs.length l u k) xs)) (fun b ob q => Heap.get?_push_of_some _ q) (Nat.le_refl _) ?_, rfl, q _ (I5.hok.fresh (Nat.le_refl _))⟩
  exact ⟨by omega, _, 0, vals_pick r _, Heap.get?_push_size _ rfl⟩
def slkD (d : D) (lo hi o : Option Int) : R D := match d, o with
  | .lst xs, some k => if k = 0 then .st else .ok (.lst (pickN (stIx xs.length lo hi k) xs))
  | _, _ => .st
theorem slk_cases (d : D) (lo hi o : Option Int) : slkD d lo hi o = .st ∨ ∃ xs k, d = .lst xs ∧ o = some k ∧ k ≠ 0 ∧ slkD d lo hi o = .ok (.lst (pickN (stIx xs.length lo hi k) xs)) := by
  unfold slkD
  split
  · split
    · exact .inl rfl
    · rename_i h
      exact .inr ⟨_, _, rfl, rfl, h, rfl⟩
  · exact .inl rfl
def slkE (f : Env → R D) (lo hi st : Env → R (Option Int)) (ρ : Env) : R D := (f ρ).bind fun d => (lo ρ).bind fun l => (hi ρ).bind fun u => (st ρ).bind fun o => slkD d l u o
def slkG (f : Env → R D) (lo hi st : Env → R (Option Int)) (ρ : Env) : R D := (f ρ).bind fun d => (lo ρ).bind fun l => (hi ρ).bind fun u => (st ρ).bind fun o => (slkD d l u o).bind immL
section
variable {X : Cx} {W : WX} {a st : Expr} {f : Env → R D} {lo hi : Option Expr} {l u o : Env → R (Option Int)} {p2 pos : Pos}
theorem ve_slk (ha : VE X W a f) (hl : VO X W lo l) (hu : VO X W hi u) (hs : VO X W (some st) o) : VE X W (.Subscript a (.Slice lo hi (some st) p2) pos) (slkE f l u o) :=
  ⟨peW (pe_sliceK ha.pe hl.po hu.po hs.po) fun σ H Q ⟨ρ, re, z⟩ => ⟨ρ, re, (Out.bind z).mono fun d _ q v H1 s1 r1 => ⟨ρ, re.mono s1, ((Out.bind q).up s1).mono fun l _ q H2 s2 => ⟨ρ, re.mono (s1.trans s2), ((Out.bind q).up (s1.trans s2)).mono fun u _ q H3 s3 => ⟨ρ, re.mono (s1.trans (s2.trans s3)), ((Out.bind q).up (s1.trans (s2.trans s3))).mono fun o _ q H4 s4 => by
    rcases slk_cases d l u o with z | ⟨xs, k, rfl, rfl, hk, z⟩
    · rw [z] at q
      exact q.elim
    · rw [z] at q
      · cases r1 with
        | lst h1 r1 =>
          have r2 := r1.mono (s2.trans (s3.trans s4))
          refine ⟨_, _, k, rfl, rfl, (s2.trans (s3.trans s4)).seq h1, hk, fun p hp => ?_⟩
          refine q _ _ ((s1.trans (s2.trans (s3.trans s4))).trans (new_same hp)) (.lst (SqL.of upd_same) ?_)
          rw [← r1.length]
          exact rds_pick (r2.mono (new_same hp)) _
⟩⟩⟩⟩⟩
theorem vg_slk (ha : VE X W a f) (hl : VO X W lo l) (hu : VO X W hi u) (hs : VO X W (some st) o) : VG X W (.Subscript a (.Slice lo hi (some st) p2) pos) (slkG f l u o) :=
  ⟨peW (pe_sliceK ha.pe hl.po hu.po hs.po) fun σ H Q ⟨ρ, re, z⟩ => ⟨ρ, re, (Out.bind z).mono fun d _ q v H1 s1 r1 => ⟨ρ, re.mono s1, ((Out.bind q).up s1).mono fun l _ q H2 s2 => ⟨ρ, re.mono (s1.trans s2), ((Out.bind q).up (s1.trans s2)).mono fun u _ q H3 s3 => ⟨ρ, re.mono (s1.trans (s2.trans s3)), ((Out.bind q).up (s1.trans (s2.trans s3))).mono fun o _ q H4 s4 => by
    rcases slk_cases d l u o with z | ⟨xs, k, rfl, rfl, hk, z⟩
    · rw [z] at q
      exact q.elim
    · rw [z] at q
      · cases r1 with
        | lst h1 r1 =>
          have r2 := r1.mono (s2.trans (s3.trans s4))
          refine ⟨_, _, k, rfl, rfl, (s2.trans (s3.trans s4)).seq h1, hk, fun p hp => ?_⟩
          rw [← r1.length] at q
          have r4 := rds_pick r2 (stIx xs.length l u k)
          rw [← r1.length] at r4
          generalize pickN _ xs = ys at q r4
          have q : Out X.mg W σ H (if immDs ys = true then R.ok (D.lst ys) else R.st) _ := q
          by_cases m : immDs ys = true
          · rw [if_pos m] at q
            exact q _ _ [p] ((s1.trans (s2.trans (s3.trans s4))).trans (new_same hp)) (fu_new_lst hp r4 m) fun a ha => by
              rw [List.mem_singleton.mp ha]; exact (s1.trans (s2.trans (s3.trans s4))).free hp
          · rw [if_neg m] at q
            exact q.elim
⟩⟩⟩⟩⟩
end

/-! ### the module's names as values -/
def ConK (K : PySem.W.Frag) (x : Str) (v : V) : Prop := ∃ u, PySem.W.nsIn K mainGlobals x = some (some u) ∧ RelV v u
theorem conI_mk {K : PySem.W.Frag} {x : Str} {i : Int} {t : Tok} (a : PySem.W.nsIn K mainGlobals x = some (some (.int i t))) : ConK K x (.int i) := ⟨_, a, t, rfl⟩
theorem conS_mk {K : PySem.W.Frag} {x : Str} {i : Str} {t : Tok} (a : PySem.W.nsIn K mainGlobals x = some (some (.str i t))) : ConK K x (.str i) := ⟨_, a, t, rfl⟩
def ConM (mg : Str → Option Value) (x : Str) (v : V) : Prop := ∃ u, mg x = some u ∧ RelV v u
theorem con_of {K : PySem.W.Frag} {h : Heap} {mg : Str → Option Value} {x : Str} {v : V} (X : K.In h) (G : h.Ns mainGlobals mg) (d : ConK K x v) : ConM mg x v := by
  obtain ⟨u, a, r⟩ := d
  exact ⟨u, PySem.W.mg_of X G a, r⟩
def FnM (K : PySem.W.Frag) (mg : Str → Option Value) (x : Str) : Prop := ∃ f, mg x = some (.ref f) ∧ NameK K x f
theorem fnM_of {K : PySem.W.Frag} {h : Heap} {mg : Str → Option Value} {x : Str} {st : Stmt} (X : K.In h) (G : h.Ns mainGlobals mg) (d : DefK K x st) : FnM K mg x := by
  obtain ⟨f, oc, od, kV, doc, pm, an, cd, ct, sl, a, l, c, k⟩ := d
  exact ⟨f, PySem.W.mg_of X G a, a⟩
section
variable {X : Cx} {W : WX} {x : Str} {pos : Pos}
theorem vg_conI {i : Int} (c : ConM X.mg x (.int i)) (hg : Gl X x) (hd : (x == ("__debug__" : Str)) = false := by decide) : VG X W (.Name x pos) (cE (.int i)) := by
  obtain ⟨u, h, r⟩ := c
  exact ⟨peW (pe_glob hg h r hd) fun σ H Q ⟨ρ, re, o⟩ => o (.int i) H [] (Same.refl H) (.int i) (fun _ z => nomatch z)⟩
theorem vg_conS {z : Str} (c : ConM X.mg x (.str z)) (hg : Gl X x) (hd : (x == ("__debug__" : Str)) = false := by decide) : VG X W (.Name x pos) (cE (.str z)) := by
  obtain ⟨u, h, r⟩ := c
  exact ⟨peW (pe_glob hg h r hd) fun σ H Q ⟨ρ, re, o⟩ => o (.str z) H [] (Same.refl H) (.str z) (fun _ z => nomatch z)⟩
theorem vg_fnv (c : FnM X.K X.mg x) (hg : Gl X x) (hd : (x == ("__debug__" : Str)) = false := by decide) : VG X W (.Name x pos) (cE (.fn x)) := by
  obtain ⟨f, h, r⟩ := c
  exact ⟨peW (pe_glob (v := .ref f) hg h rfl hd) fun σ H Q ⟨ρ, re, o⟩ => o (.ref f) H [] (Same.refl H) (.fn r) (fun _ z => nomatch z)⟩
end

/-! ### a call of what a slot holds -/
def callT (i : Nat) (T : List (Str × (List D → R D))) (fs : Env → R (List D)) (ρ : Env) : R D := match ρ[i]? with
  | some (some (.fn x)) => match T.lookup x with
    | some m => (fs ρ).bind m
    | none => .st
  | _ => .st
def CalT (P : Program) (w : World) (K : PySem.W.Frag) (mg : Str → Option Value) (base : Heap) (n k : Nat) : List (Str × (List D → R D)) → Prop
  | [] => True
  | (x, m) :: T => (∃ ps k', ps.length = n ∧ k' ≤ k ∧ Cal P w K mg base x ps k' m) ∧ CalT P w K mg base n k T
theorem calT_get {P : Program} {w : World} {K : PySem.W.Frag} {mg : Str → Option Value} {base : Heap} {n k : Nat} : ∀ {T : List (Str × (List D → R D))} {x : Str} {m : List D → R D}, CalT P w K mg base n k T → T.lookup x = some m → ∃ ps k', ps.length = n ∧ k' ≤ k ∧ Cal P w K mg base x ps k' m
  | [], _, _, _, h => nomatch h
  | (y, m') :: T, x, m, ⟨c, cs⟩, h => by
    rw [List.lookup_cons] at h
    split at h
    · rename_i e
      cases h
      rw [eq_of_beq e]
      exact c
    · exact calT_get cs h
section
variable {X : Cx} {W : WX} {x : Str} {p pos : Pos} {e : Expr} {es : List Expr} {i n k' : Nat} {T : List (Str × (List D → R D))} {fs : Env → R (List D)}
def tCallV (X : Cx) (k' i : Nat) (W : WX) (t : TA) : TE := fun σ H Q => ∃ f y, σ[i]? = some (some (.ref f)) ∧ NameK X.K y f ∧ ∃ ps k m, k ≤ k' ∧ Cal X.prog X.w X.K X.mg X.base y ps k m ∧ t σ H fun vs H1 => spF X.K X.mg ps.length m vs H1 Q fun cls d H2 => W cls d σ H2
theorem pe_callV {t : TA} (hr : Room k' X.A) (tk : Takes X W) (hN : X.N[i]? = some x) (hv : Vis X.env.scope x) (ha : PA X (e :: es) t)
    (hdb : (x == ("__debug__" : Str)) = false := by decide) (hcd : (x == ("__classdict__" : Str)) = false := by decide)
    (he : starEach (e :: es) X.env = (false, eval e X.env) :: starEach es X.env := by rfl) (hpl : (backTo pos (starEach es X.env)).any (·.1) = false := by rfl) : PE X (.Call (.Name x p) (e :: es) [] pos) (tCallV X k' i W t) := by
  refine ⟨fun pins s σ H Q I h => ?_⟩
  obtain ⟨f, y, hs, hn, ps, k, m, hk, ⟨f2, fd, h1, h2, h3, h4⟩, ht⟩ := h
  have e2 := h1.symm.trans (PySem.W.mg_of I.ok.mod.kin I.ok.mod.glob hn)
  cases e2
  refine wpAny_Call_Name_kw (thn ((pe_var (pos := p) hN hv hdb hcd).run pins s σ H (fun v H1 => v = .ref f ∧ H1 = H) I ⟨.ref f, hs, rfl, rfl⟩) fun u s1 ⟨v, H1, I1, r1, q1⟩ => ?_)
  obtain ⟨rfl, rfl⟩ := q1
  cases r1
  refine PySem.W.callWith_K (h₀ := X.base) I.ok.mod.kin h2 (thn (ha.run pos pins s1 σ _ _ I1 ht) fun us s2 ⟨vs, H2, I2, r, q⟩ => ⟨I2.kIn, ?_⟩) he hpl
  exact run_fnS (E := fun σ cls d H2 => W cls d σ H2) h4 (hr.mono hk) h3 (passAt tk σ) I2 r q
theorem vg_callT (C : CalT X.prog X.w X.K X.mg X.base n k' T) (hr : Room k' X.A) (tk : Takes X W) (hN : X.N[i]? = some x) (hv : Vis X.env.scope x)
    (ha : VA X W (e :: es) fs) (hl : LenA fs n) (hdb : (x == ("__debug__" : Str)) = false := by decide) (hcd : (x == ("__classdict__" : Str)) = false := by decide) (he : starEach (e :: es) X.env = (false, eval e X.env) :: starEach es X.env := by rfl) (hpl : (backTo pos (starEach es X.env)).any (·.1) = false := by rfl) :
    VG X W (.Call (.Name x p) (e :: es) [] pos) (callT i T fs) := ⟨peW (pe_callV hr tk hN hv ha.pa hdb hcd he hpl) fun σ H Q ⟨ρ, re, o⟩ => by
  unfold callT at o
  split at o
  · rename_i y hy
    split at o
    · rename_i m hm
      obtain ⟨ps, k, hp, hk, c⟩ := calT_get C hm
      obtain ⟨v, h1, h2⟩ := re.val i _ hy
      cases h2 with
      | @fn f _ hn =>
      refine ⟨f, y, h1, hn, ps, k, m, hk, c, ρ, re, (Out.bind o).mono fun ds hd q vs H1 s1 r1 => ?_⟩
      refine ⟨r1.length.trans ((hl ρ ds hd).trans hp.symm), ds, r1, ?_⟩
      cases hz : m ds with
      | ok d => rw [hz] at q; exact fun v H' A s2 f2 n2 => q v H' A (s1.trans s2) f2 fun a z => s1.free (n2 a z)
      | ex c => rw [hz] at q; obtain ⟨C, h1, h2⟩ := q; exact ⟨C, h1, fun H' s2 => h2 H' (s1.trans s2)⟩
      | st => rw [hz] at q; exact q.elim
    · exact o.elim
  · exact o.elim⟩
end
end Vs

namespace Vs
open PySem PySem.Spec PyProof.Rows L2

/-! ### defs with defaults -/
def DefKD (K : PySem.W.Frag) (x : Str) (st : Stmt) (dvs : List V) : Prop := ∃ (f : Addr) (oc : Value) (od : Option Addr) (T : Addr) (kV doc pm : Value) (an : Option Addr) (cd ct : Value) (sl : Array (Option Value)) (o : Obj) (its : List Value) (n : Nat),
  PySem.W.nsIn K mainGlobals x = some (some (.ref f)) ∧ K.lookup f = some ⟨oc, od, .func (PySem.W.fnOf x x (defArgs st) (defBody st) (defScope st) (.ref T) kV doc pm an cd ct), sl⟩ ∧ PySem.W.codeIn K cd x = true ∧ PySem.W.keepIn K (.ref f) = true ∧
  K.lookup T = some o ∧ o.data = .seq its.toArray n ∧ Vals dvs its
theorem defKD_mk {K : PySem.W.Frag} {x : Str} {st : Stmt} {dvs : List V} {f : Addr} {oc : Value} {od : Option Addr} {T : Addr} {kV doc pm : Value} {an : Option Addr} {cd ct : Value} {sl : Array (Option Value)} {o : Obj} {its : List Value} {n : Nat}
    (a : PySem.W.nsIn K mainGlobals x = some (some (.ref f))) (l : K.lookup f = some ⟨oc, od, .func (PySem.W.fnOf x x (defArgs st) (defBody st) (defScope st) (.ref T) kV doc pm an cd ct), sl⟩) (c : PySem.W.codeIn K cd x = true) (k : PySem.W.keepIn K (.ref f) = true)
    (t : K.lookup T = some o) (d : o.data = .seq its.toArray n) (v : Vals dvs its) : DefKD K x st dvs :=
  ⟨f, oc, od, T, kV, doc, pm, an, cd, ct, sl, o, its, n, a, l, c, k, t, d, v⟩
def DefD (K : PySem.W.Frag) (mg : Str → Option Value) (x : Str) (st : Stmt) (dvs : List V) : Prop := ∃ f fd, FunD K x x (defArgs st) (defBody st) (defScope st) dvs [] f fd ∧ mg x = some (.ref f)
theorem defD_of {K : PySem.W.Frag} {h : Heap} {mg : Str → Option Value} {x : Str} {st : Stmt} {dvs : List V} (X : K.In h) (G : h.Ns mainGlobals mg) (hd : dvs ≠ []) (d : DefKD K x st dvs) : DefD K mg x st dvs := by
  obtain ⟨f, oc, od, T, kV, doc, pm, an, cd, ct, sl, o, its, n, a, l, c, k, t, dt, v⟩ := d
  exact ⟨f, _, ⟨⟨oc, od, .ref T, kV, doc, pm, an, cd, ct, sl, rfl, l, c, .inr ⟨hd, T, o, its, n, rfl, t, dt, v⟩, .inl rfl⟩, k⟩, PySem.W.mg_of X G a⟩
theorem fnM_ofD {K : PySem.W.Frag} {h : Heap} {mg : Str → Option Value} {x : Str} {st : Stmt} {dvs : List V} (X : K.In h) (G : h.Ns mainGlobals mg) (d : DefKD K x st dvs) : FnM K mg x := by
  obtain ⟨f, oc, od, T, kV, doc, pm, an, cd, ct, sl, o, its, n, a, l, c, k, t, dt, v⟩ := d
  exact ⟨f, PySem.W.mg_of X G a, a⟩
/-- a def with defaults that keeps its promise: n arguments are written, the others are dd -/
def CalD (P : Program) (w : World) (K : PySem.W.Frag) (mg : Str → Option Value) (base : Heap) (x : Str) (ps : List Str) (n : Nat) (dd : List D) (k : Nat) (m : List D → R D) : Prop :=
  ∃ f fd ds dvs, mg x = some (.ref f) ∧ PySem.W.keepIn K (.ref f) = true ∧ Binds K fd ps ds ∧ Vals dvs ds ∧ (∀ H, Rds K H dvs dd) ∧ n + dd.length = ps.length ∧ FnOk P w K mg base (L2.CX P w) k f fd ps (spF K mg ps.length m)
section
variable {P : Program} {w : World} {K : PySem.W.Frag} {mg : Str → Option Value} {base : Heap}
theorem fnD_ok {x qual : Str} {st : Stmt} {f : Addr} {fd : FuncData} {N ps : List Str} {k : Nat} {own' : List Nat} {b : Env → Sr} {dvs : List V} (F : FunD K x qual (defArgs st) (defBody st) (defScope st) dvs [] f fd) (S : FnScope N ps (defScope st)) (hps : ps.length ≤ N.length)
    (hbody : ∀ (cdv : Value) (A : Around) (outer : List PySem.Env) (s : Shared) (H : Hp) (E : XK), Room k (A.deeper (envOfC qual (defScope st) s.heap.objs.size f cdv)) →
      VSs (cxOf (L2.CX P w) P w K mg base N qual (defScope st) f cdv A outer s H E) (fun cls d _ H => E cls d H) [] own' nol (defBody st) b) :
    FnOk P w K mg base (L2.CX P w) (k + 1) f fd ps (spF K mg ps.length (runB N.length b)) := by
  refine F.ok S (fun vs H Q E h => h.1) (fun cdv A outer s H vs Q E hr h => ?_)
  obtain ⟨hl, ds, r, h⟩ := h
  refine ⟨_, (hbody cdv A outer s H E hr).ps, H, _, start_env r (by rw [hl]; exact hps), Pin.nol, ?_⟩
  unfold runB at h
  generalize b (ds.map some ++ List.replicate (N.length - ds.length) none) = q at h
  cases q with
  | st => exact h
  | nx ρ => exact fun σ H' y _ => h .non H' [] y.base .non (fun _ z => nomatch z)
  | rt d => exact h
  | rb d ρ => exact h.elim
  | bk ρ => exact h.elim
  | ct ρ => exact h.elim
  | ex c ρ =>
    obtain ⟨C, h1, h2⟩ := h
    exact ⟨C, h1, fun σ H' y _ => h2 H' y.base⟩
theorem calD_mk {x : Str} {st : Stmt} {N ps : List Str} {k : Nat} {own' : List Nat} {b : Env → Sr} {dvs : List V} (F : DefD K mg x st dvs) (S : FnScope N ps (defScope st)) (hps : ps.length ≤ N.length) (n j : Nat) (dd : List D) (hr : ∀ H, Rds K H (dvs.drop j) dd) (hd : dvs ≠ []) (hn : n + (dvs.length - j) = ps.length)
    (hb : ∀ (T : Addr) (kV doc pm : Value) (an : Option Addr) (cdv ct : Value) (us its : List Value), us.length = n → its.length = dvs.length →
      ∃ k, bindArgs (PySem.W.fnOf x x (defArgs st) (defBody st) (defScope st) (.ref T) kV doc pm an cdv ct) ⟨us, []⟩ = seqItems? (.ref T) >>= k ∧ k (some its.toArray) = pure (ps.zip (us ++ its.drop j)))
    (hbody : ∀ (f : Addr) (cdv : Value) (A : Around) (outer : List PySem.Env) (s : Shared) (H : Hp) (E : XK), Room k (A.deeper (envOfC x (defScope st) s.heap.objs.size f cdv)) →
      VSs (cxOf (L2.CX P w) P w K mg base N x (defScope st) f cdv A outer s H E) (fun cls d _ H => E cls d H) [] own' nol (defBody st) b) :
    CalD P w K mg base x ps n dd (k + 1) (runB N.length b) := by
  obtain ⟨f, fd, F, h⟩ := F
  obtain ⟨ds, v, bn⟩ := F.binds1 n j hd hn hb
  refine ⟨f, fd, ds, _, h, F.kp, bn, v, hr, ?_, fnD_ok F S hps (fun cdv A outer s H E hr => hbody f cdv A outer s H E hr)⟩
  have := (hr (fun _ => none)).length
  rw [List.length_drop] at this
  omega
/-- all arguments are written -/
theorem CalD.all {x : Str} {ps : List Str} {n k : Nat} {m : List D → R D} (C : CalD P w K mg base x ps n [] k m) : Cal P w K mg base x ps k m := by
  obtain ⟨f, fd, ds, dvs, h1, h2, h3, v, r, hn, h4⟩ := C
  have r := r (fun _ => none)
  cases r
  cases v
  exact ⟨f, fd, h1, h2, h3, h4⟩
def dflA (fs : Env → R (List D)) (dd : List D) (ρ : Env) : R (List D) := (fs ρ).bind fun ds => .ok (ds ++ dd)
theorem vg_fnD {X : Cx} {W : WX} {x : Str} {ps : List Str} {n k k' : Nat} {dd : List D} {m : List D → R D} {p pos : Pos} {e : Expr} {es : List Expr} {fs : Env → R (List D)} (C : CalD X.prog X.w X.K X.mg X.base x ps n dd k m) (hr : Room k' X.A) (tk : Takes X W) (hg : Gl X x)
    (ha : VA X W (e :: es) fs) (hl : LenA fs n) (hk : k ≤ k' := by decide) (hdb : (x == ("__debug__" : Str)) = false := by decide) (he : starEach (e :: es) X.env = (false, eval e X.env) :: starEach es X.env := by rfl) (hpl : (backTo pos (starEach es X.env)).any (·.1) = false := by rfl) :
    VG X W (.Call (.Name x p) (e :: es) [] pos) (callF m (dflA fs dd)) := by
  obtain ⟨f, fd, ds, dvs, h1, h2, h3, v, r, hn, h4⟩ := C
  exact ⟨peW (pe_callSD h4 (hr.mono hk) hg h1 h2 h3 v (fun σ => passAt tk σ) ha.pa hdb he hpl) fun σ H Q ⟨ρ, re, o⟩ => ⟨ρ, re, (Out.bind (Out.bind o)).mono fun ds hd q vs H1 s1 r1 => by
    refine ⟨?_, ds ++ dd, r1.app (r H1), ?_⟩
    · rw [List.length_append, r1.length, hl ρ ds hd, (r H1).length]
      exact hn
    · have q : Out X.mg W σ H (m (ds ++ dd)) _ := q
      cases hz : m (ds ++ dd) with
      | ok d => rw [hz] at q; exact fun v H' A s2 f2 n2 => q v H' A (s1.trans s2) f2 fun a z => s1.free (n2 a z)
      | ex c => rw [hz] at q; obtain ⟨C, h1, h2⟩ := q; exact ⟨C, h1, fun H' s2 => h2 H' (s1.trans s2)⟩
      | st => rw [hz] at q; exact q.elim⟩⟩
end
end Vs

namespace Vs
open PySem PySem.Spec PyProof.Rows L2

/-! ### defs that are given their arguments -/
theorem fus_split {K : PySem.W.Frag} {H : Hp} : ∀ {vs : List V} {ds : List D} {A : List Addr}, Fus K H vs ds A →
    ∃ F : Nat → List Addr, (∀ i d, ds[i]? = some d → ∃ v, vs[i]? = some v ∧ Fu K H v d (F i)) ∧ (∀ i, ∀ a ∈ F i, a ∈ A) ∧ ∀ i j, i ≠ j → ∀ a ∈ F i, a ∉ F j
  | _, _, _, .nil => ⟨fun _ => [], (fun i d h => by simp at h), (fun _ _ h => nomatch h), fun _ _ _ _ h => nomatch h⟩
  | _, _, _, @Fus.cons _ _ v vs d ds A B h r m => by
    obtain ⟨F, h1, h2, h3⟩ := fus_split r
    refine ⟨fun i => match i with | 0 => A | i + 1 => F i, fun i e q => ?_, fun i a ha => ?_, fun i j ne a ha hb => ?_⟩
    · cases i with
      | zero => simp at q; subst q; exact ⟨v, rfl, h⟩
      | succ i => simpa using h1 i e (by simpa using q)
    · cases i with
      | zero => exact List.mem_append_left _ ha
      | succ i => exact List.mem_append_right _ (h2 i a ha)
    · cases i with
      | zero => cases j with
        | zero => exact ne rfl
        | succ j => exact m a ha (h2 j a hb)
      | succ i => cases j with
        | zero => exact m a hb (h2 i a ha)
        | succ j => exact h3 i j (fun e => ne (by rw [e])) a ha hb
theorem start_own {K : PySem.W.Frag} {S H : Hp} {N : List Str} {vs : List V} {ds : List D} {A : List Addr} (own : List Nat) (f : Fus K H vs ds A) (hl : vs.length ≤ N.length) (s : Same S H) (cl : ∀ a o, H a = some o → Stt o → S a = some o) (hA : ∀ a ∈ A, S a = none) (ho : ∀ i, i < vs.length → i ∈ own) :
    Sta own S K (ds.map some ++ List.replicate (N.length - ds.length) none) (L2.start N vs) H := by
  obtain ⟨F, h1, h2, h3⟩ := fus_split f
  refine ⟨S, F, Same.refl S, ?_, s, cl, fun i d q => ?_, fun i m a ha => ⟨hA a (h2 i a ha), f.soft a (h2 i a ha)⟩, fun i _ j _ ne => h3 i j ne⟩
  · unfold L2.start
    simp [f.length]
  · rw [List.getElem?_append] at q
    split at q
    · rename_i hi
      rw [List.getElem?_map] at q
      cases e : ds[i]? with
      | none => rw [e] at q; cases q
      | some d' =>
        rw [e] at q
        cases q
        obtain ⟨v, g1, g2⟩ := h1 i _ e
        have hi2 : i < vs.length := by rw [f.length]; simpa using hi
        refine ⟨v, ?_, fun _ => g2, fun m => absurd (ho i hi2) m⟩
        unfold L2.start
        rw [List.getElem?_append_left (by rw [List.length_map]; exact hi2), List.getElem?_map, g1]
        rfl
    · rw [List.getElem?_replicate] at q
      split at q <;> cases q
/-- what a def does with arguments that are given to it -/
def spG (K : PySem.W.Frag) (mg : Str → Option Value) (n : Nat) (m : List D → R D) : Sp := fun vs H Q E => vs.length = n ∧ ∃ S ds A, Same S H ∧ (∀ a o, H a = some o → Stt o → S a = some o) ∧ Fus K H vs ds A ∧ (∀ a ∈ A, S a = none) ∧ match m ds with
  | .ok d => ∀ v H' A, Same S H' → Fu K H' v d A → (∀ a ∈ A, S a = none) → Q v H'
  | .ex c => ∃ C, mg c = some (.ref C) ∧ ∀ H', Same S H' → E (.ref C) none H'
  | .st => False
def CalG (P : Program) (w : World) (K : PySem.W.Frag) (mg : Str → Option Value) (base : Heap) (x : Str) (ps : List Str) (k : Nat) (m : List D → R D) : Prop :=
  ∃ f fd, mg x = some (.ref f) ∧ PySem.W.keepIn K (.ref f) = true ∧ Binds K fd ps [] ∧ FnOk P w K mg base (L2.CX P w) k f fd ps (spG K mg ps.length m)
section
variable {P : Program} {w : World} {K : PySem.W.Frag} {mg : Str → Option Value} {base : Heap}
theorem calG_mk {x : Str} {st : Stmt} {N ps : List Str} {k : Nat} {own own' : List Nat} {b : Env → Sr} (F : Def K mg x st) (S : FnScope N ps (defScope st)) (hps : ps.length ≤ N.length) (ho : ∀ i, i < ps.length → i ∈ own)
    (hb : ∀ (kV doc pm : Value) (an : Option Addr) (cdv ct : Value) (us : List Value), us.length = ps.length → bindArgs (PySem.W.fnOf x x (defArgs st) (defBody st) (defScope st) .none kV doc pm an cdv ct) ⟨us, []⟩ = pure (ps.zip us))
    (hbody : ∀ (f : Addr) (cdv : Value) (A : Around) (outer : List PySem.Env) (s : Shared) (H : Hp) (E : XK), Room k (A.deeper (envOfC x (defScope st) s.heap.objs.size f cdv)) →
      VSs (cxOf (L2.CX P w) P w K mg base N x (defScope st) f cdv A outer s H E) (fun cls d _ H => E cls d H) own own' nol (defBody st) b) :
    CalG P w K mg base x ps (k + 1) (runB N.length b) := by
  obtain ⟨f, fd, F, h⟩ := F
  refine ⟨f, fd, h, F.kp, F.binds hb, F.okX S (fun vs H Q E h => h.1) (fun cdv A outer s H vs Q E hr h => ?_)⟩
  obtain ⟨hl, S0, ds, A0, s0, cl, fu, hA, h⟩ := h
  refine ⟨_, (hbody f cdv A outer s H E hr).ps, S0, _, start_own own fu (by rw [hl]; exact hps) s0 cl hA (by rw [hl]; exact ho), Pin.nol, ?_⟩
  unfold runB at h
  generalize b (ds.map some ++ List.replicate (N.length - ds.length) none) = q at h
  cases q with
  | st => exact h
  | nx ρ => exact fun σ H' y _ => h .non H' [] y.base .non (fun _ z => nomatch z)
  | rt d => exact h
  | rb d ρ => exact h.elim
  | bk ρ => exact h.elim
  | ct ρ => exact h.elim
  | ex c ρ =>
    obtain ⟨C, h1, h2⟩ := h
    exact ⟨C, h1, fun σ H' y _ => h2 H' y.base⟩
theorem vg_fnG {X : Cx} {W : WX} {x : Str} {ps : List Str} {k k' : Nat} {m : List D → R D} {p pos : Pos} {e : Expr} {es : List Expr} {fs : Env → R (List D)} (C : CalG X.prog X.w X.K X.mg X.base x ps k m) (hr : Room k' X.A) (tk : Takes X W) (hg : Gl X x)
    (ha : VB X W (e :: es) fs) (hl : LenA fs ps.length) (hk : k ≤ k' := by decide) (hdb : (x == ("__debug__" : Str)) = false := by decide) (he : starEach (e :: es) X.env = (false, eval e X.env) :: starEach es X.env := by rfl) (hpl : (backTo pos (starEach es X.env)).any (·.1) = false := by rfl) :
    VG X W (.Call (.Name x p) (e :: es) [] pos) (callF m fs) := by
  obtain ⟨f, fd, h1, h2, h3, h4⟩ := C
  exact ⟨peW (pe_callS h4 (hr.mono hk) hg h1 h2 h3 (fun σ => passAt tk σ) ha.pa hdb he hpl) fun σ H Q ⟨ρ, re, o⟩ => ⟨ρ, re, (Out.bind o).mono fun ds hd q vs H1 A s1 f1 n1 => by
    refine ⟨f1.length.trans (hl ρ ds hd), ext H H1 [], ds, A, ext_h s1 [], fun a o e t => ext_stt s1 e t, f1, fun a ha => ?_, ?_⟩
    · obtain ⟨o, g1, g2⟩ := f1.soft a ha
      exact ext_none (n1 a ha) (fun z => nomatch z) fun o' e' => by rw [g1] at e'; cases e'; exact g2
    · cases hz : m ds with
      | ok d => rw [hz] at q; exact fun v H' A s2 f2 n2 => q v H' A ((ext_s []).trans s2) f2 fun a z => (ext_s (S := H) (H := H1) []).free (n2 a z)
      | ex c => rw [hz] at q; obtain ⟨C, h1, h2⟩ := q; exact ⟨C, h1, fun H' s2 => h2 H' ((ext_s []).trans s2)⟩
      | st => rw [hz] at q; exact q.elim⟩⟩
end

/-! ### an item of what is new -/
def ownIx (d k : D) : R D := match d, k with
  | .lst xs, .int i => match atI xs i with
    | some e => .ok e
    | none => .st
  | .tup xs, .int i => match atI xs i with
    | some e => .ok e
    | none => .st
  | _, _ => .st
theorem atI_fu {K : PySem.W.Frag} {H : Hp} {vs : List V} {ds : List D} {A : List Addr} (r : Fus K H vs ds A) {i : Int} {d : D} (h : atI ds i = some d) : ∃ v A', atI vs i = some v ∧ Fu K H v d A' ∧ ∀ a ∈ A', a ∈ A := by
  unfold atI at h ⊢
  rw [r.length]
  cases e : ixN ds.length i with
  | none => rw [e] at h; cases h
  | some j => rw [e] at h; exact r.get h
theorem vg_ixG {X : Cx} {W : WX} {a b : Expr} {f g : Env → R D} {pos : Pos} (ha : VG X W a f) (hb : VE X W b g) (hs : PlainIx b) : VG X W (.Subscript a b pos) (op2 ownIx f g) :=
  ⟨peW (pe_ix ix_seq ha.pe hb.pe hs) fun σ H Q ⟨ρ, re, o⟩ => ⟨ρ, re, (Out.bind o).mono fun d _ q v H1 A s1 f1 n1 => ⟨ρ, re.mono s1, ((Out.bind q).up s1).mono fun e _ q w H2 s2 r2 => by
    unfold ownIx at q
    split at q
    · split at q
      · rename_i hx
        cases r2
        cases f1 with
        | lst h1 r1 hn =>
          obtain ⟨u, A', hu, ru, sub⟩ := atI_fu r1 hx
          exact .inl ⟨_, _, _, u, rfl, rfl, s2.seq (SqL.of h1), hu, q u H2 A' (s1.trans s2) (ru.same s2) fun a ha => n1 a (List.mem_cons_of_mem _ (sub a ha))⟩
      · exact q.elim
    · split at q
      · rename_i hx
        cases r2
        cases f1 with
        | tup h1 r1 =>
          obtain ⟨u, A', hu, ru, sub⟩ := atI_fu r1 hx
          exact .inr (.inl ⟨_, _, _, u, rfl, rfl, (seqT s2 h1).sq, hu, q u H2 A' (s1.trans s2) (ru.same s2) fun a ha => n1 a (sub a ha)⟩)
      · exact q.elim
    · exact q.elim⟩⟩⟩
end Vs

namespace Vs
open PySem PySem.Spec PyProof.Rows L2

/-! ### a loop over lists that slots own, and go on owning behind it -/
def setsE (f : Nat → Option D) : List Nat → Env → Env
  | [], ρ => ρ
  | j :: J, ρ => (setsE f J ρ).set j (f j)
theorem setsE_length (f : Nat → Option D) : ∀ (J : List Nat) (ρ : Env), (setsE f J ρ).length = ρ.length
  | [], _ => rfl
  | j :: J, ρ => by rw [setsE, List.length_set, setsE_length f J ρ]
theorem setsE_out {f : Nat → Option D} : ∀ {J : List Nat} {ρ : Env} {k : Nat}, k ∉ J → (setsE f J ρ)[k]? = ρ[k]?
  | [], _, _, _ => rfl
  | j :: J, ρ, k, h => by
    rw [setsE, List.getElem?_set_ne fun e => h (by rw [e]; exact List.mem_cons_self)]
    exact setsE_out fun z => h (List.mem_cons_of_mem _ z)
theorem setsE_in {f : Nat → Option D} : ∀ {J : List Nat} {ρ : Env} {k : Nat}, k ∈ J → k < ρ.length → (setsE f J ρ)[k]? = some (f k)
  | j :: J, ρ, k, h, hl => by
    rw [setsE]
    by_cases e : j = k
    · subst e
      rw [List.getElem?_set_self (by rw [setsE_length]; exact hl)]
    · rw [List.getElem?_set_ne e]
      exact setsE_in ((List.mem_cons.mp h).resolve_left (Ne.symm e)) hl
def tokE (α : Nat → Addr) (J : List Nat) (ρ : Env) : Env := setsE (fun j => some (.exc "" (α j))) J ρ
def restE (J : List Nat) (ρ0 ρ : Env) : Env := setsE (fun j => (ρ0[j]?).getD none) J ρ
def softB (o : Option (Option D)) : Bool := match o with
  | some (some d) => !immD d
  | _ => false
def softJ (M : List Nat) (ρ : Env) : List Nat := M.filter fun j => softB ρ[j]?
def keepO (b : Bool) (o : Option D) : Option D := match o with
  | some d => if b || immD d then some d else none
  | none => none
def dropE (L : List Nat) : Nat → Env → Env
  | _, [] => []
  | k, o :: ρ => keepO (decide (k ∈ L)) o :: dropE L (k + 1) ρ
theorem dropE_length (L : List Nat) : ∀ (k : Nat) (ρ : Env), (dropE L k ρ).length = ρ.length
  | _, [] => rfl
  | k, o :: ρ => by rw [dropE, List.length_cons, List.length_cons, dropE_length L (k + 1) ρ]
theorem dropE_get (L : List Nat) : ∀ (k : Nat) (ρ : Env) (i : Nat), (dropE L k ρ)[i]? = (ρ[i]?).map (keepO (decide (k + i ∈ L)))
  | _, [], _ => by simp [dropE]
  | k, o :: ρ, 0 => by simp [dropE]
  | k, o :: ρ, i + 1 => by
    rw [dropE, List.getElem?_cons_succ, List.getElem?_cons_succ, dropE_get L (k + 1) ρ i]
    rw [show k + 1 + i = k + (i + 1) by omega]
def tokR (α : Nat → Addr) (J : List Nat) : Sr → Sr
  | .nx ρ => .nx (tokE α J ρ)
  | .rt d => .rt d
  | _ => .st
def finF (own J : List Nat) (ρ0 : Env) : Sr → Sr
  | .nx ρ => .nx (dropE (own ++ J) 0 (restE J ρ0 ρ))
  | .rt d => .rt d
  | _ => .st
theorem tok_rest {α : Nat → Addr} {J : List Nat} {ρ0 ρ1 ρ2 : Env} (h : tokE α J ρ1 = tokE α J ρ2) : restE J ρ0 ρ1 = restE J ρ0 ρ2 := by
  have hl : ρ1.length = ρ2.length := by
    have := congrArg List.length h
    unfold tokE at this
    rw [setsE_length, setsE_length] at this
    exact this
  unfold restE
  apply List.ext_getElem?
  intro k
  by_cases hk : k ∈ J
  · by_cases hlt : k < ρ1.length
    · rw [setsE_in hk hlt, setsE_in hk (by omega)]
    · rw [List.getElem?_eq_none (by rw [setsE_length]; omega), List.getElem?_eq_none (by rw [setsE_length]; omega)]
  · rw [setsE_out hk, setsE_out hk]
    have := congrArg (fun l => l[k]?) h
    unfold tokE at this
    skip
    rw [setsE_out hk, setsE_out hk] at this
    exact this
theorem tokR_fin {α : Nat → Addr} {own J : List Nat} {ρ0 : Env} {r r' : Sr} (h : tokR α J r = tokR α J r') : finF own J ρ0 r = finF own J ρ0 r' := by
  unfold tokR at h
  cases r <;> cases r' <;> first
    | rfl
    | (injection h with h; unfold finF; simp only; rw [tok_rest h])
    | (injection h with h; subst h; rfl)
    | (simp at h)
open Classical in
noncomputable def lendF (own I M : List Nat) (L : List D → Env → Sr) (ds : List D) (ρ : Env) : Sr :=
  if I.all (fun i => softB ρ[i]?) = true then
    (if h : ∃ r : Sr, ∀ α, L ds (tokE α (softJ (I ++ M) ρ) ρ) = tokR α (softJ (I ++ M) ρ) r then finF own (softJ (I ++ M) ρ) ρ (Classical.choose h) else .st)
  else .st
theorem lendF_eq {own I M : List Nat} {L : List D → Env → Sr} {ds : List D} {ρ : Env} (r : Sr) (hI : I.all (fun i => softB ρ[i]?) = true) (h : ∀ α, L ds (tokE α (softJ (I ++ M) ρ) ρ) = tokR α (softJ (I ++ M) ρ) r) :
    lendF own I M L ds ρ = finF own (softJ (I ++ M) ρ) ρ r := by
  have hx : ∃ r : Sr, ∀ α, L ds (tokE α (softJ (I ++ M) ρ) ρ) = tokR α (softJ (I ++ M) ρ) r := ⟨r, h⟩
  unfold lendF
  rw [if_pos hI, dif_pos hx]
  have h2 := Classical.choose_spec hx
  exact tokR_fin (α := fun _ => 0) ((h2 _).symm.trans (h _))
noncomputable def forF (own I M : List Nat) (fi : Env → R (List D)) (tf : D → Env → Option Env) (b : Env → Sr) (ρ : Env) : Sr := bindS (fi ρ) ρ fun ds => lendF own I M (forL tf b) ds ρ
section
variable {K : PySem.W.Frag} {H H' S B : Hp} {own own' : List Nat} {F : Nat → List Addr} {ρ : Env} {σ : L2.St}
/-- fewer slots own: what stays from now on, by name -/
theorem Stx.weakX (h : Stx own K S F ρ σ H) (w : ∀ i ∈ own', i ∈ own) : Stx own' K (ext S H ((own.filter (fun i => decide (i ∉ own'))).flatMap F)) F ρ σ H := by
  refine ⟨h.len, ext_h h.sub _, fun a o e t => ext_stt h.sub e t, fun i d q => ?_, fun i m a ha => ?_, fun i mi j mj => h.dis i (w i mi) j (w j mj)⟩
  · obtain ⟨v, h1, h2, h3⟩ := h.val i d q
    refine ⟨v, h1, fun m => h2 (w i m), fun m => ?_⟩
    by_cases mo : i ∈ own
    · exact (h2 mo).ext h.sub fun a ha => List.mem_flatMap.mpr ⟨i, List.mem_filter.mpr ⟨mo, by simpa using m⟩, ha⟩
    · exact (h3 mo).mono (ext_s _)
  · obtain ⟨h1, o, h2, h3⟩ := h.out i (w i m) a ha
    refine ⟨ext_none h1 (fun z => ?_) (fun o' e => ?_), o, h2, h3⟩
    · obtain ⟨j, hj, hz⟩ := List.mem_flatMap.mp z
      obtain ⟨hj1, hj2⟩ := List.mem_filter.mp hj
      have hj2 : j ∉ own' := by simpa using hj2
      exact h.dis i (w i m) j hj1 (fun e => hj2 (e ▸ m)) a ha hz
    · rw [h2] at e; cases e; exact h3
theorem rd_soft {v : V} {d : D} (r : Rd K H v d) (m : immD d = false) : ∃ a, v = .ref a := by
  cases r <;> first | exact ⟨_, rfl⟩ | (exact absurd m (by simp [immD]))
def refA (σ : L2.St) (j : Nat) : Addr := match σ[j]? with
  | some (some (.ref a)) => a
  | _ => 0
theorem softJ_get {M : List Nat} {ρ : Env} {j : Nat} (h : j ∈ softJ M ρ) : j ∈ M ∧ ∃ d, ρ[j]? = some (some d) ∧ immD d = false := by
  obtain ⟨h1, h2⟩ := List.mem_filter.mp h
  unfold softB at h2
  split at h2
  · rename_i d e
    exact ⟨h1, d, e, by simpa using h2⟩
  · cases h2
/-- the lists lent out come back -/
theorem lend_back {own own1 I M : List Nat} {S2 : Hp} {F2 : Nat → List Addr} {ρ' : Env} {σ' : L2.St} {S1 : Hp} (st : Stx own K S F ρ σ H) (hI : ∀ i ∈ I, i ∈ own) (hM : ∀ j ∈ M, j ∉ own) (h1 : ∀ i, i ∈ own1 ↔ i ∈ own ∧ i ∉ I)
    (hs : I.all (fun i => softB ρ[i]?) = true) (s1 : Same S S1) (hF : ∀ i ∈ I, ∀ a ∈ F i, ∀ o, H a = some o → S1 a = some o) (ht : ∀ b o, Stt o → H b = some o → S1 b = some o) (s2 : Same S1 S2)
    (x : Stx own1 K S2 F2 (tokE (refA σ) (softJ (I ++ M) ρ) ρ') σ' H') : Sta own S K (dropE (own1 ++ softJ (I ++ M) ρ) 0 (restE (softJ (I ++ M) ρ) ρ ρ')) σ' H' := by
  classical
  have inJ : ∀ i ∈ I, i ∈ softJ (I ++ M) ρ := fun i hi => List.mem_filter.mpr ⟨List.mem_append_left _ hi, List.all_eq_true.mp hs i hi⟩
  have hS2 : ∀ i ∈ I, ∀ a ∈ F i, ∃ o, H a = some o ∧ S2 a = some o ∧ ¬ Stt o := fun i hi a ha => by
    obtain ⟨_, o, g1, g2⟩ := st.out i (hI i hi) a ha
    exact ⟨o, g1, s2 a o (hF i hi a ha o g1), g2⟩
  have noS : ∀ a, a ∈ I.flatMap F → S a = none := fun a h => by
    obtain ⟨i, hi, ha⟩ := List.mem_flatMap.mp h
    exact (st.out i (hI i hi) a ha).1
  refine ⟨fun a => if a ∈ I.flatMap F then none else S2 a, fun k => if k ∈ I then F k else F2 k, fun a o e => ?_, ?_, fun a o e => ?_, fun a o e t => ?_, fun k d q => ?_, fun k m a ha => ?_, fun k mk j mj ne a ha hb => ?_⟩
  · simp only
    rw [if_neg fun z => by rw [noS a z] at e; cases e]
    exact s2 a o (s1 a o e)
  · have := x.len
    unfold tokE at this
    rw [setsE_length] at this
    rw [dropE_length]
    unfold restE
    rw [setsE_length]
    exact this
  · skip
    split at e
    · cases e
    · exact x.sub a o e
  · skip
    rw [if_neg fun z => ?_]
    · exact x.cl a o e t
    · obtain ⟨i, hi, ha⟩ := List.mem_flatMap.mp z
      obtain ⟨o', _, g2, g3⟩ := hS2 i hi a ha
      rw [x.sub a o' g2] at e
      cases e
      exact g3 t
  · rw [dropE_get] at q
    rw [Nat.zero_add] at q
    cases e0 : (restE (softJ (I ++ M) ρ) ρ ρ')[k]? with
    | none => rw [e0] at q; cases q
    | some o =>
      rw [e0] at q
      have q : keepO (decide (k ∈ own1 ++ softJ (I ++ M) ρ)) o = some d := Option.some.inj q
      cases o with
      | none => cases q
      | some d0 =>
        unfold keepO at q
        simp only at q
        split at q
        · rename_i cond
          cases q
          have hlen : k < ρ'.length := by
            have := List.getElem?_eq_some_iff.mp e0
            obtain ⟨h, _⟩ := this
            unfold restE at h
            rw [setsE_length] at h
            exact h
          by_cases hJ : k ∈ softJ (I ++ M) ρ
          · unfold restE at e0
            rw [setsE_in hJ hlen] at e0
            obtain ⟨hm, d1, g1, g2⟩ := softJ_get hJ
            rw [g1] at e0
            have e0 : d1 = d := by simpa using e0
            subst e0
            -- the value is the same
            have tk : (tokE (refA σ) (softJ (I ++ M) ρ) ρ')[k]? = some (some (.exc "" (refA σ k))) := by unfold tokE; rw [setsE_in hJ hlen]
            obtain ⟨v, j1, j2, j3⟩ := x.val k _ tk
            obtain ⟨w, l1, l2, l3⟩ := st.val k d1 g1
            have rv : v = .ref (refA σ k) := by
              by_cases m1 : k ∈ own1
              · have := (j2 m1).rd; cases this; rfl
              · have := j3 m1; cases this; rfl
            have rw_ : w = .ref (refA σ k) := by
              have rr : Rd K H w d1 := by
                by_cases mo : k ∈ own
                · exact (l2 mo).rd
                · exact (l3 mo).mono st.sub
              obtain ⟨a, ea⟩ := rd_soft rr g2
              unfold refA
              rw [l1, ea]
            refine ⟨w, by rw [j1, rv, rw_], fun mo => ?_, fun mo => ?_⟩
            · have hk : k ∈ I := by
                rcases List.mem_append.mp hm with z | z
                · exact z
                · exact absurd mo (hM k z)
              rw [if_pos hk]
              refine (l2 mo).at (fun a ha => ?_) fun b o st' h => ?_
              · obtain ⟨o, e1, e2, _⟩ := hS2 k hk a ha
                rw [e1]
                exact x.sub a o e2
              · exact x.sub b _ (s2 b _ (ht b o st' h))
            · refine (l3 mo).mono fun a o e => ?_
              skip
              rw [if_neg fun z => by rw [noS a z] at e; cases e]
              exact s2 a o (s1 a o e)
          · unfold restE at e0
            rw [setsE_out hJ] at e0
            have tk : (tokE (refA σ) (softJ (I ++ M) ρ) ρ')[k]? = some (some d) := by unfold tokE; rw [setsE_out hJ, e0]
            have nI : k ∉ I := fun z => hJ (inJ k z)
            obtain ⟨v, j1, j2, j3⟩ := x.val k _ tk
            refine ⟨v, j1, fun mo => ?_, fun mo => ?_⟩
            · rw [if_neg nI]
              exact j2 ((h1 k).mpr ⟨mo, nI⟩)
            · have n1 : k ∉ own1 := fun z => mo ((h1 k).mp z).1
              have im : immD d = true := by
                have : decide (k ∈ own1 ++ softJ (I ++ M) ρ) = false := decide_eq_false fun z => (List.mem_append.mp z).elim n1 hJ
                rw [this] at cond
                simpa using cond
              refine (((j3 n1).fu im).at (H' := fun a => if a ∈ I.flatMap F then none else S2 a) (fun a ha => nomatch ha) fun b o st' h => ?_).rd
              show (if b ∈ I.flatMap F then none else S2 b) = some o
              rw [if_neg fun z => ?_]
              · exact h
              · obtain ⟨i, hi, ha⟩ := List.mem_flatMap.mp z
                obtain ⟨o', _, g2, g3⟩ := hS2 i hi b ha
                have h : S2 b = some o := h
                rw [h] at g2
                cases g2
                exact g3 st'
        · cases q
  · by_cases hk : k ∈ I
    · rw [if_pos hk] at ha
      obtain ⟨o, e1, e2, e3⟩ := hS2 k hk a ha
      refine ⟨?_, o, x.sub a o e2, e3⟩
      skip
      rw [if_pos (List.mem_flatMap.mpr ⟨k, hk, ha⟩)]
    · rw [if_neg hk] at ha
      obtain ⟨e1, o, e2, e3⟩ := x.out k ((h1 k).mpr ⟨m, hk⟩) a ha
      refine ⟨?_, o, e2, e3⟩
      skip
      split
      · rfl
      · exact e1
  · by_cases hk : k ∈ I
    · rw [if_pos hk] at ha
      by_cases hj : j ∈ I
      · rw [if_pos hj] at hb
        exact st.dis k (hI k hk) j (hI j hj) ne a ha hb
      · rw [if_neg hj] at hb
        have := (x.out j ((h1 j).mpr ⟨mj, hj⟩) a hb).1
        obtain ⟨o, _, e2, _⟩ := hS2 k hk a ha
        rw [this] at e2; cases e2
    · rw [if_neg hk] at ha
      by_cases hj : j ∈ I
      · rw [if_pos hj] at hb
        have := (x.out k ((h1 k).mpr ⟨mk, hk⟩) a ha).1
        obtain ⟨o, _, e2, _⟩ := hS2 j hj a hb
        rw [this] at e2; cases e2
      · rw [if_neg hj] at hb
        exact x.dis k ((h1 k).mpr ⟨mk, hk⟩) j ((h1 j).mpr ⟨mj, hj⟩) ne a ha hb
end
section
variable {X : Cx} {W : WX} {own own1 I M slots : List Nat} {ol : Ol} {tg iter : Expr} {body : List Stmt} {fi : Env → R (List D)} {tf : D → Env → Option Env} {b : Env → Sr} {pos : Pos}
theorem tok_start {K : PySem.W.Frag} {B H : Hp} {F : Nat → List Addr} {ρ : Env} {σ : L2.St} {J : List Nat} (x : Stx own1 K B F ρ σ H) (hJ : ∀ j ∈ J, j ∉ own1 ∧ ∃ d, ρ[j]? = some (some d) ∧ immD d = false) : Stx own1 K B F (tokE (refA σ) J ρ) σ H := by
  refine ⟨by unfold tokE; rw [setsE_length]; exact x.len, x.sub, x.cl, fun k d q => ?_, x.out, x.dis⟩
  by_cases hk : k ∈ J
  · obtain ⟨n, d1, g1, g2⟩ := hJ k hk
    have hl : k < ρ.length := by
      obtain ⟨h, _⟩ := List.getElem?_eq_some_iff.mp g1
      exact h
    unfold tokE at q
    rw [setsE_in hk hl] at q
    have q : D.exc "" (refA σ k) = d := by simpa using q
    subst q
    obtain ⟨v, h1, _, h3⟩ := x.val k d1 g1
    refine ⟨v, h1, fun m => absurd m n, fun _ => ?_⟩
    obtain ⟨a, ea⟩ := rd_soft (h3 n) g2
    have : v = .ref (refA σ k) := by
      unfold refA
      rw [h1, ea]
    rw [this]
    exact .exc _ _
  · unfold tokE at q
    rw [setsE_out hk] at q
    exact x.val k d q
theorem vs_forF (hp : PassesOwn (model X.prog X.w) X.A X.env X.xe) (hc : X.calm = true) (hi : VI X W own1 tg iter fi) (hg : VG' X own1 slots tg tf) (hb : VSs X W own1 own1 { l := own1, P := ol.P } body b)
    (hI : ∀ i ∈ I, i ∈ own := by decide) (hM : ∀ j ∈ M, j ∉ own := by decide) (h1 : own1 = own.filter (fun i => decide (i ∉ I)) := by rfl)
    (hs : ∀ x, foldedSetIterable iter X.env x = pure x := by intro _; rfl) (we : ∀ i ∈ ol.e, i ∈ own := by first | decide | (dsimp only; decide)) (hpn : ∀ i ∈ slots, ol.P i = none := by first | exact (fun _ _ => rfl) | (intro i hi; simp only [List.mem_cons, List.not_mem_nil, or_false] at hi; (repeat' (rcases hi with rfl | hi)) <;> first | rfl | (subst hi; rfl))) : VS X W own own ol (.For tg iter body [] pos) (forF own1 I M fi tf b) := by
  obtain ⟨g, pg, tk⟩ := hg
  have h1' : ∀ i, i ∈ own1 ↔ i ∈ own ∧ i ∉ I := fun i => by rw [h1, List.mem_filter]; simp
  refine ⟨psW (ps_for hp hc hi.pi pg hb.ps hs) fun D σ H ⟨B, ρ, x, pn, q⟩ => ?_⟩
  have q0 := SEnd.out x pn we q
  obtain ⟨S, F, bS, st⟩ := x
  have stw := st.weakX (own' := own1) fun i m => ((h1' i).mp m).1
  have hext : ∀ i ∈ I, ∀ a ∈ F i, a ∈ (own.filter (fun i => decide (i ∉ own1))).flatMap F := fun i hi a ha => List.mem_flatMap.mpr ⟨i, List.mem_filter.mpr ⟨hI i hi, by simpa using fun z => ((h1' i).mp z).2 hi⟩, ha⟩
  have eF : ∀ i ∈ I, ∀ a ∈ F i, ∀ o, H a = some o → ext S H ((own.filter (fun i => decide (i ∉ own1))).flatMap F) a = some o := fun i hi a ha o e => ext_at st.sub e (hext i hi a ha)
  have eT : ∀ b o, Stt o → H b = some o → ext S H ((own.filter (fun i => decide (i ∉ own1))).flatMap F) b = some o := fun b o t q => ext_stt st.sub q t
  have eS : Same S (ext S H ((own.filter (fun i => decide (i ∉ own1))).flatMap F)) := ext_s _
  generalize ext S H ((own.filter (fun i => decide (i ∉ own1))).flatMap F) = S' at stw eF eT eS
  refine ⟨ρ, S', F, stw, q0.mono fun ds _ q J H1 A s1 n1 it => ?_⟩
  have st1 := stw.grow s1 n1
  have sB : Same S' (ext S' H1 A) := ext_s A
  generalize ext S' H1 A = B1 at it st1 sB
  unfold lendF at q
  split at q
  rotate_left
  · exact q.elim
  rename_i hsf
  split at q
  rotate_left
  · exact q.elim
  rename_i hx
  have hr := Classical.choose_spec hx
  generalize Classical.choose hx = r at q hr
  have nJ : ∀ j ∈ softJ (I ++ M) ρ, j ∉ own1 ∧ ∃ d, ρ[j]? = some (some d) ∧ immD d = false := fun j hj => by
    obtain ⟨m, z⟩ := softJ_get hj
    refine ⟨fun w => ?_, z⟩
    rcases List.mem_append.mp m with m | m
    · exact ((h1' j).mp w).2 m
    · exact hM j m ((h1' j).mp w).1
  have stt := tok_start st1 nJ
  have qq : SEnd X.K X.mg W own1 { l := own1, P := ol.P } B1 D (forL tf b ds (tokE (refA σ) (softJ (I ++ M) ρ) ρ)) := by
    rw [hr]
    cases r with
    | nx ρ' =>
      intro σ' H' z pz
      obtain ⟨S2, F2, b2, x2⟩ := z
      exact q σ' H' ((lend_back st hI hM h1' hsf (eS.trans sB) (fun i hi a ha o e => sB a o (eF i hi a ha o e)) (fun b o t h => sB b _ (eT b o t h)) b2 x2).down bS) pz
    | rt d =>
      have q : ∀ v H A, Same B H → Fu X.K H v d A → (∀ a ∈ A, B a = none) → D.rt v H := q
      intro v H' A' s f n
      have := (bS.trans (eS.trans sB))
      exact q v H' A' (this.trans s) f fun a m => this.free (n a m)
    | st => exact q
    | bk ρ => exact q.elim
    | ct ρ => exact q.elim
    | ex c ρ => exact q.elim
    | rb d ρ => exact q.elim
  refine ⟨fun i m σ H => m = ds.length - i ∧ i ≤ ds.length ∧ ∃ ρ, Sta own1 B1 X.K ρ σ H ∧ Pin ol.P σ ∧ SEnd X.K X.mg W own1 { l := own1, P := ol.P } B1 D (forL tf b (ds.drop i) ρ), ⟨ds.length, by simp, Nat.zero_le _, _, ⟨B1, F, Same.refl _, stt⟩, pn, qq⟩, ?_⟩
  rintro i m σ2 H2 ⟨rfl, hi, ρ2, ⟨S2, F2, b2, x2⟩, pn2, q2⟩
  obtain ⟨go, stop⟩ := it S2 H2 i b2 x2.sub
  by_cases hlt : i < ds.length
  · obtain ⟨g1, g2⟩ := go ds[i] (List.getElem?_eq_getElem hlt)
    refine .inr ⟨g1, fun σ' H' => ∃ ρ', Sta own1 B1 X.K ρ' σ' H' ∧ Pin ol.P σ' ∧ SEnd X.K X.mg W own1 { l := own1, P := ol.P } B1 D (forL tf b (ds.drop (i + 1)) ρ'), fun σ' H' ⟨ρ', y, z⟩ => ⟨ds.length - (i + 1), by omega, rfl, hlt, ρ', y, z⟩, fun v H3 y => ?_⟩
    obtain ⟨s3, r3⟩ := g2 v H3 y
    rw [List.drop_eq_getElem_cons hlt] at q2
    unfold forL at q2
    cases e : tf ds[i] ρ2 with
    | none => rw [e] at q2; exact q2.elim
    | some ρ3 =>
      rw [e] at q2
      simp only at q2
      refine tk _ _ ρ2 σ2 H3 v _ ρ3 (x2.grow s3 (A := []) (fun _ z => nomatch z)) r3 e _ fun σ4 x4 k4 _ => ?_
      refine ⟨B1, ρ3, ⟨_, _, b2.trans (ext_s []), x4⟩, pn2.keep fun j hj => k4 j fun m => hj (hpn j m), ?_⟩
      cases eb : b ρ3 with
      | nx ρ5 => rw [eb] at q2; exact fun σ' H' z pz => ⟨ρ5, z, pz, q2⟩
      | ct ρ5 => rw [eb] at q2; exact fun σ' H' z pz => ⟨ρ5, z, pz, q2⟩
      | bk ρ5 => rw [eb] at q2; exact q2
      | rb d ρ5 => rw [eb] at q2; exact q2
      | rt d => rw [eb] at q2; exact q2
      | st => rw [eb] at q2; exact q2
      | ex c ρ5 => rw [eb] at q2; exact q2
  · have e : i = ds.length := by omega
    subst e
    rw [List.drop_length] at q2
    exact .inl ⟨stop (Nat.le_refl _), q2 σ2 H2 ⟨S2, F2, b2, x2⟩ pn2⟩
end
end Vs

namespace Vs
open PySem PySem.Spec PyProof.Rows L2

/-! ### list(range(..)), reversed(range(..)) -/
def rgC (a c : Int) (n : Nat) : List V := (List.range n).map fun (i : Nat) => V.int (a + (i : Int) * c)
theorem rgC_length (a c : Int) (n : Nat) : (rgC a c n).length = n := by unfold rgC; rw [List.length_map, List.length_range]
theorem vals_rgC {a c : Int} {n : Nat} {acc : Array Value} (h : ItemsOf (fun i v => ∃ t, v = .int (a + i * c) t) acc n) : Vals (rgC a c n) acc.toList := by
  have e : acc.toList.length = n := by rw [Array.length_toList]; exact h.1
  unfold rgC
  rw [← e]
  refine vals_of_get acc.toList _ fun j u hj => ?_
  obtain ⟨t, rfl⟩ := h.2 j u (by rw [← hj, Array.getElem?_toList])
  exact ⟨t, rfl⟩
theorem rds_rgC {K : PySem.W.Frag} {H : Hp} (a c : Int) (n : Nat) : Rds K H (rgC a c n) (rngC a c n) := by
  unfold rgC rngC
  generalize List.range n = l
  induction l with
  | nil => exact .nil
  | cons i l ih => exact .cons (.int _) ih
theorem rgV_rgC (i j : Int) : rgV i j = rgC i 1 (j - i).toNat := by
  unfold rgV rgC
  exact List.map_congr_left fun x _ => by rw [Int.mul_one]
theorem imm_rngC (a c : Int) (n : Nat) : immDs (rngC a c n) = true := by
  unfold rngC
  generalize List.range n = l
  induction l with
  | nil => rfl
  | cons i l ih =>
    rw [List.map_cons, immDs, ih]
    rfl
/-- list(range(i, j, c)) -/
def lrg3 : List D → R D
  | [.int i, .int j, .int c] => if okRange i j c ∧ (Builtin.Range.rangeSize i j c).toNat ≤ 16777216 then .ok (.lst (rngC i c (Builtin.Range.rangeSize i j c).toNat)) else .st
  | _ => .st
def lrg2 : D → D → R D
  | .int i, .int j => if bnd i ∧ bnd j ∧ (j - i).toNat ≤ 16777216 then .ok (.lst (rngC i 1 (j - i).toNat)) else .st
  | _, _ => .st
def lrgE (g : List D → R D) (fs : Env → R (List D)) (ρ : Env) : R D := (fs ρ).bind g
section
variable {X : Cx} {W : WX} {a b c tg : Expr} {fs : Env → R (List D)} {p p2 pos pos2 : Pos}
def tLrg3 (t : TA) : TE := fun σ H Q => t σ H fun vs H1 => ∃ i j c, vs = [.int i, .int j, .int c] ∧ okRange i j c ∧ (Builtin.Range.rangeSize i j c).toNat ≤ 16777216 ∧ ∀ q, H1 q = none → Q (.ref q) (upd H1 q (.lst (rgC i c (Builtin.Range.rangeSize i j c).toNat)))
theorem pe_lrg3 {t : TA} (hc : X.calm = true) (hl : Gl X "list") (hlm : X.mg "list" = none) (hg : Gl X "range") (hm : X.mg "range" = none) (ha : PA X [a, b, c] t)
    (hs : starEach [a, b, c] X.env = (false, eval a X.env) :: starEach [b, c] X.env := by rfl) (hpl : (backTo pos (starEach [b, c] X.env)).any (·.1) = false := by rfl)
    (na : starEach [.Call (.Name "range" p) [a, b, c] [] pos] X.env = (false, eval (.Call (.Name "range" p) [a, b, c] [] pos) X.env) :: starEach [] X.env := by rfl) :
    PE X (.Call (.Name "list" p2) [.Call (.Name "range" p) [a, b, c] [] pos] [] pos2) (tLrg3 t) := by
  refine ⟨fun pins s σ H Q I h => ?_⟩
  refine Call_ (ld_blt I hl hlm boot_list (PyProof.Rows.callWith_type1 (args_cons ?_ na) na))
  refine thn (Q := fun x s' => ∃ r i j k t u v H', x = .ref r ∧ IsRange s'.heap r i j k t u v ∧ Inv X pins σ H' s' ∧ okRange i j k ∧ (Builtin.Range.rangeSize i j k).toNat ≤ 16777216 ∧ ∀ q, H' q = none → Q (.ref q) (upd H' q (.lst (rgC i k (Builtin.Range.rangeSize i j k).toNat)))) ?_ fun x s1 ⟨r, i, j, k, t, u, v, H1, ex, hr, I1, ok, le, q⟩ => args_nil ?_
  · refine Call_ (ld_blt I hg hm boot_range (PyProof.Rows.callWith_type1 (thn (ha.run pos pins s σ H _ I h) fun us s1 ⟨vs, H1, I1, r1, q1⟩ => ?_) hs hpl))
    obtain ⟨i, j, k, e, ok, le, q⟩ := q1
    subst e
    cases r1 with
    | cons r rr =>
      cases rr with
      | cons r' rr =>
        cases rr with
        | cons r'' rr =>
          cases rr
          obtain ⟨t, rfl⟩ := r
          obtain ⟨t', rfl⟩ := r'
          obtain ⟨t'', rfl⟩ := r''
          refine call_range_3 ok.1 ?_ (.inl (PyProof.noPylong_small ok.2.1))
          exact ⟨_, i, j, k, t, t', t'', H1, rfl, IsRange.new .., I1.kept (t' := s1.toks) fun b o e => Heap.get?_push_of_some _ e, ok, le, q⟩
  · subst ex
    refine call_list_range (n := (Builtin.Range.rangeSize i j k).toNat) (I1.ok.hd hc) hr ok.2.2 (rangeSize_toNat i j k) (by omega) fun h' tk acc c' hk e' hi => ?_
    refine ⟨.ref s1.heap.objs.size, upd H1 s1.heap.objs.size (.lst (rgC i k (Builtin.Range.rangeSize i j k).toNat)), I1.laid hk (Nat.le_refl _) (show ObjOk X.prog X.w _ _ _ (.lst (rgC i k (Builtin.Range.rangeSize i j k).toNat)) from ⟨?_, acc.toList, c', vals_rgC hi, ?_⟩), rfl, q _ (I1.hok.fresh (Nat.le_refl _))⟩
    · rw [rgC_length, sizeLine_eq]; omega
    · rw [Array.toArray_toList]; exact e'
theorem vg_lrg3 (hc : X.calm = true) (hl : Gl X "list") (hlm : X.mg "list" = none) (hg : Gl X "range") (hm : X.mg "range" = none) (ha : VA X W [a, b, c] fs)
    (hs : starEach [a, b, c] X.env = (false, eval a X.env) :: starEach [b, c] X.env := by rfl) (hpl : (backTo pos (starEach [b, c] X.env)).any (·.1) = false := by rfl)
    (na : starEach [.Call (.Name "range" p) [a, b, c] [] pos] X.env = (false, eval (.Call (.Name "range" p) [a, b, c] [] pos) X.env) :: starEach [] X.env := by rfl) :
    VG X W (.Call (.Name "list" p2) [.Call (.Name "range" p) [a, b, c] [] pos] [] pos2) (lrgE lrg3 fs) :=
  ⟨peW (pe_lrg3 hc hl hlm hg hm ha.pa hs hpl na) fun σ H Q ⟨ρ, re, o⟩ => ⟨ρ, re, (Out.bind o).mono fun ds _ q vs H1 s1 r1 => by
    unfold lrg3 at q
    split at q
    · obtain ⟨v, w, u, rfl, h1, h2, h3⟩ := rds3 r1
      split at q
      · rename_i ok
        cases h1
        cases h2
        cases h3
        exact ⟨_, _, _, rfl, ok.1, ok.2, fun p hp => q _ _ [p] (s1.trans (new_same hp)) (fu_new_lst hp (rds_rgC _ _ _) (imm_rngC _ _ _)) fun a ha => by rw [List.mem_singleton.mp ha]; exact s1.free hp⟩
      · exact q.elim
    · exact q.elim⟩⟩
theorem vg_lrg2 (hc : X.calm = true) (hl : Gl X "list") (hlm : X.mg "list" = none) (hg : Gl X "range") (hm : X.mg "range" = none) {f g : Env → R D} (ha : VE X W a f) (hb : VE X W b g)
    (na : starEach [a, b] X.env = (false, eval a X.env) :: starEach [b] X.env := by rfl) (nb : starEach [b] X.env = (false, eval b X.env) :: starEach [] X.env := by rfl) (hpl : (backTo pos (starEach [b] X.env)).any (·.1) = false := by rfl)
    (nr : starEach [.Call (.Name "range" p) [a, b] [] pos] X.env = (false, eval (.Call (.Name "range" p) [a, b] [] pos) X.env) :: starEach [] X.env := by rfl) :
    VG X W (.Call (.Name "list" p2) [.Call (.Name "range" p) [a, b] [] pos] [] pos2) (op2 lrg2 f g) :=
  ⟨peW (pe_listRg hc hl hlm (prg_2 hg hm ha.pe hb.pe na nb hpl) nr) fun σ H Q ⟨ρ, re, o⟩ => ⟨ρ, re, (Out.bind o).mono fun d _ q v H1 s1 r1 => ⟨ρ, re.mono s1, ((Out.bind q).up s1).mono fun e _ q w H2 s2 r2 => by
    unfold lrg2 at q
    split at q
    · skip
      split at q
      · rename_i ok
        cases r1
        cases r2
        refine ⟨_, _, rfl, rfl, ⟨by have := ok.1; unfold bnd at this; omega, by have := ok.1; unfold bnd at this; omega, by have := ok.2.1; unfold bnd at this; omega, by have := ok.2.1; unfold bnd at this; omega, by have := ok.2.2; omega⟩, fun p hp => ?_⟩
        rw [rgV_rgC]
        exact q _ _ [p] ((s1.trans s2).trans (new_same hp)) (fu_new_lst hp (rds_rgC _ _ _) (imm_rngC _ _ _)) fun a ha => by rw [List.mem_singleton.mp ha]; exact (s1.trans s2).free hp
      · exact q.elim
    · exact q.elim⟩⟩⟩
/-- reversed(range(n)) -/
def revRg1 : D → R (List D)
  | .int j => if bnd j then .ok (rngC (0 + (((j - 0).toNat : Nat) : Int) - 1) (-1) (j - 0).toNat) else .st
  | _ => .st
theorem vi_revRg1 {own : List Nat} {f : Env → R D} (hr : Gl X "reversed") (hrm : X.mg "reversed" = none) (hg : Gl X "range") (hm : X.mg "range" = none) (ha : VE X W a f)
    (na : starEach [a] X.env = (false, eval a X.env) :: starEach [] X.env := by rfl)
    (nr : starEach [.Call (.Name "range" p) [a] [] pos] X.env = (false, eval (.Call (.Name "range" p) [a] [] pos) X.env) :: starEach [] X.env := by rfl) :
    VI X W own tg (.Call (.Name "reversed" p2) [.Call (.Name "range" p) [a] [] pos] [] pos2) (itV revRg1 f) :=
  ⟨piW (pi_revR hr hrm (prg_1 hg hm ha.pe na) nr) fun σ H Q ⟨ρ, S, F, st, o⟩ => ⟨ρ, st.env, (Out.bind o).mono fun d _ q v H' s r => by
    unfold revRg1 at q
    split at q
    · split at q
      · rename_i ok
        cases r
        refine ⟨_, rfl, by omega, by omega, by unfold bnd at ok; omega, by unfold bnd at ok; omega, q _ H' [] s (fun _ z => nomatch z) (it_rngC _ _ _)⟩
      · exact q.elim
    · exact q.elim⟩⟩
end
end Vs

namespace Vs
open PySem PySem.Spec PyProof.Rows L2

/-! ### slices as sources -/
section
variable {X : Cx} {W : WX} {own : List Nat} {a stp : Expr} {f : Env → R D} {lo hi : Option Expr} {l u o : Env → R (Option Int)} {p2 pos : Pos}
theorem vp_slk (ha : VP X W own a f) (hl : VO X W lo l) (hu : VO X W hi u) (hs : VO X W (some stp) o) : VP X W own (.Subscript a (.Slice lo hi (some stp) p2) pos) (slkE f l u o) :=
  ⟨peW (pe_sliceK ha.pe hl.po hu.po hs.po) fun σ H Q ⟨ρ, S, F, st, z⟩ => ⟨ρ, S, F, st, (Out.bind z).mono fun d _ q v H1 A s1 n1 r1 => ⟨ρ, st.env.mono s1, ((Out.bind q).up s1).mono fun l _ q H2 s2 => ⟨ρ, st.env.mono (s1.trans s2), ((Out.bind q).up (s1.trans s2)).mono fun u _ q H3 s3 => ⟨ρ, st.env.mono (s1.trans (s2.trans s3)), ((Out.bind q).up (s1.trans (s2.trans s3))).mono fun o _ q H4 s4 => by
    rcases slk_cases d l u o with z | ⟨xs, k, rfl, rfl, hk, z⟩
    · rw [z] at q
      exact q.elim
    · rw [z] at q
      have sX := s2.trans (s3.trans s4)
      have m := ext_mono (A := A) sX (st.sub.trans s1)
      cases r1 with
      | lst h1 r1 =>
        have h1 := m.seq h1
        have r1 := r1.mono m
        have sS : Same S H4 := st.sub.trans (s1.trans sX)
        refine ⟨_, _, k, rfl, rfl, (ext_h sS A).seq h1, hk, fun p hp => ?_⟩
        refine q _ _ (p :: A) ((s1.trans sX).trans (new_same hp)) (fun a m => (List.mem_cons.mp m).elim (fun z => by rw [z]; exact (s1.trans sX).free hp) fun z => n1 a z) (.lst (SqL.of (ext_at (sS.trans (new_same hp)) upd_same List.mem_cons_self)) ?_)
        rw [← r1.length]
        exact rds_pick (r1.mono ((ext_mono (A := A) (new_same hp) sS).trans (ext_sup fun a m => List.mem_cons_of_mem _ m))) _⟩⟩⟩⟩⟩
end
end Vs

namespace Vs
open PySem PySem.Spec PyProof.Rows L2

/-! ### a slot's list handed over -/
section
variable {K : PySem.W.Frag} {H H' S S0 B : Hp} {own own' : List Nat} {F : Nat → List Addr} {ρ : Env} {σ : L2.St}
/-- a slot is given up -/
theorem Stx.drop (h : Stx own K S F ρ σ H) {i : Nat} (w : ∀ j, j ∈ own' ↔ j ∈ own ∧ j ≠ i) : Stx own' K S F (ρ.set i none) σ H := by
  refine ⟨by rw [List.length_set]; exact h.len, h.sub, h.cl, fun j d q => ?_, fun j m => h.out j ((w j).mp m).1, fun j m k n => h.dis j ((w j).mp m).1 k ((w k).mp n).1⟩
  rcases get_set q with ⟨_, e, _⟩ | ⟨ne, q⟩
  · cases e
  · obtain ⟨v, h1, h2, h3⟩ := h.val j d q
    exact ⟨v, h1, fun m => h2 ((w j).mp m).1, fun m => h3 fun z => m ((w j).mpr ⟨z, ne⟩)⟩
/-- the heap behind a call that left S0 -/
theorem Stx.kept (h : Stx own K S F ρ σ H) (s : Same S S0) (hF : ∀ i ∈ own, ∀ a ∈ F i, ∀ o, H a = some o → S0 a = some o) (ht : ∀ b o, Stt o → H b = some o → S0 b = some o) (s2 : Same S0 H') : Stx own K (ext S H' []) F ρ σ H' := by
  have sS : Same S H' := s.trans s2
  refine ⟨h.len, ext_h sS [], fun a o e t => ext_stt sS e t, fun i d q => ?_, fun i m a ha => ?_, h.dis⟩
  · obtain ⟨v, h1, h2, h3⟩ := h.val i d q
    refine ⟨v, h1, fun m => (h2 m).at (fun a ha => ?_) fun b o st z => s2 b _ (ht b o st z), fun m => (h3 m).mono (ext_s [])⟩
    obtain ⟨_, o, e, _⟩ := h.out i m a ha
    rw [e]
    exact s2 a o (hF i m a ha o e)
  · obtain ⟨h1, o, h2, h3⟩ := h.out i m a ha
    have e := s2 a o (hF i m a ha o h2)
    refine ⟨ext_none h1 (fun z => nomatch z) (fun o' e' => ?_), o, e, h3⟩
    rw [e] at e'; cases e'; exact h3
end
end Vs
namespace Vs
open PySem PySem.Spec PyProof.Rows L2
/-- an expression that takes slots' lists over: own' own behind it; g: the slots behind it -/
def tM (K : PySem.W.Frag) (mg : Str → Option Value) (W : WX) (own own' : List Nat) (f : Env → R D) (g : Env → Env) : TE := fun σ H Q => ∃ B ρ, Sta own B K ρ σ H ∧ match f ρ with
  | .ok d => ∀ v H', StaV own' B K (g ρ) σ H' v d → Q v H'
  | .ex c => ∃ C, mg c = some (.ref C) ∧ ∀ H', Sta [] B K (g ρ) σ H' → W (.ref C) none σ H'
  | .st => False
structure VM (X : Cx) (W : WX) (own own' : List Nat) (e : Expr) (f : Env → R D) (g : Env → Env) : Prop where
  pe : PE X e (tM X.K X.mg W own own' f g)

def dropS (i : Nat) (ρ : Env) : Env := ρ.set i none
/-- f(x, e, ..) where x's list is given to f -/
def callM (m : List D → R D) (i : Nat) (fs : Env → R (List D)) (ρ : Env) : R D := (varE i ρ).bind fun d => (fs ρ).bind fun ds => m (d :: ds)
theorem vm_callG {X : Cx} {W : WX} {own own' : List Nat} {x y : Str} {ps : List Str} {k k' i n : Nat} {m : List D → R D} {p p1 pos : Pos} {es : List Expr} {fs : Env → R (List D)} (C : CalG X.prog X.w X.K X.mg X.base x ps k m) (hr : Room k' X.A) (tk : Takes X W) (hg : Gl X x)
    (pv : PE X (.Name y p1) (tVar i)) (ha : VB X W es fs) (hl : LenA fs n) (hn : n + 1 = ps.length) (hi : i ∈ own) (w : ∀ j, j ∈ own' ↔ j ∈ own ∧ j ≠ i) (hk : k ≤ k' := by decide) (hdb : (x == ("__debug__" : Str)) = false := by decide)
    (he : starEach (.Name y p1 :: es) X.env = (false, eval (.Name y p1) X.env) :: starEach es X.env := by rfl) (hpl : (backTo pos (starEach es X.env)).any (·.1) = false := by rfl) :
    VM X W own own' (.Call (.Name x p) (.Name y p1 :: es) [] pos) (callM m i fs) (dropS i) := by
  obtain ⟨f, fd, h1, h2, h3, h4⟩ := C
  refine ⟨peW (pe_callS h4 (hr.mono hk) hg h1 h2 h3 (fun σ => passAt tk σ) (pa_cons pv ha.pa he) hdb he hpl) fun σ H Q ⟨B, ρ, ⟨S, F, bS, st⟩, q⟩ => ?_⟩
  unfold callM at q
  cases hv : varE i ρ with
  | st => rw [hv] at q; exact q.elim
  | ex c =>
    unfold varE at hv
    split at hv <;> cases hv
  | ok d0 =>
    rw [hv] at q
    simp only [R.bind_ok] at q
    have e : ρ[i]? = some (some d0) := by
      unfold varE at hv
      split at hv
      · rename_i e; cases hv; exact e
      · cases hv
    obtain ⟨v0, g1, g2, _⟩ := st.val i d0 e
    have fu0 := g2 hi
    have std : Stx own' X.K S F (dropS i ρ) σ H := st.drop w
    refine ⟨v0, g1, ρ, st.env, ?_⟩
    cases hf : fs ρ with
    | st => rw [hf] at q; exact q.elim
    | ex c =>
      rw [hf] at q
      obtain ⟨C, c1, c2⟩ := q
      exact ⟨C, c1, fun H' s => c2 H' ((Sta.grow ⟨S, F, bS, std⟩ s).weak fun _ z => nomatch z)⟩
    | ok ds =>
      rw [hf] at q
      simp only [R.bind_ok] at q
      intro vs H1 A s1 f1 n1
      have hS0 : Same S (ext S H1 (own'.flatMap F)) := ext_s _
      have hF : ∀ j ∈ own', ∀ a ∈ F j, ∀ o, H a = some o → ext S H1 (own'.flatMap F) a = some o := fun j mj a ha o e => ext_at (st.sub.trans s1) (s1 a o e) (List.mem_flatMap.mpr ⟨j, mj, ha⟩)
      have hT : ∀ b o, Stt o → H b = some o → ext S H1 (own'.flatMap F) b = some o := fun b o t z => ext_stt (st.sub.trans s1) (s1 _ _ z) t
      have offA : ∀ a ∈ A, ext S H1 (own'.flatMap F) a = none := fun a ha => by
        obtain ⟨o, z1, z2⟩ := f1.soft a ha
        refine ext_none (st.sub.free (n1 a ha)) (fun z => ?_) fun o' e' => by rw [z1] at e'; cases e'; exact z2
        obtain ⟨j, mj, hj⟩ := List.mem_flatMap.mp z
        obtain ⟨_, o2, z3, _⟩ := st.out j ((w j).mp mj).1 a hj
        rw [n1 a ha] at z3; cases z3
      have offI : ∀ a ∈ F i, ext S H1 (own'.flatMap F) a = none := fun a ha => by
        obtain ⟨z0, o, z1, z2⟩ := st.out i hi a ha
        refine ext_none z0 (fun z => ?_) fun o' e' => by rw [s1 a o z1] at e'; cases e'; exact z2
        obtain ⟨j, mj, hj⟩ := List.mem_flatMap.mp z
        exact st.dis i hi j ((w j).mp mj).1 (Ne.symm ((w j).mp mj).2) a ha hj
      refine ⟨?_, ext S H1 (own'.flatMap F), d0 :: ds, F i ++ A, ext_h (st.sub.trans s1) _, fun a o e t => ext_stt (st.sub.trans s1) e t, .cons (fu0.same s1) f1 (fun a ha hb => ?_), fun a ha => (List.mem_append.mp ha).elim (offI a) (offA a), ?_⟩
      · rw [List.length_cons, f1.length, hl ρ ds hf]
        exact hn
      · obtain ⟨_, o, z1, _⟩ := st.out i hi a ha
        rw [n1 a hb] at z1; cases z1
      · cases hz : m (d0 :: ds) with
        | st => rw [hz] at q; exact q.elim
        | ex c =>
          rw [hz] at q
          obtain ⟨C, c1, c2⟩ := q
          exact ⟨C, c1, fun H' s2 => c2 H' (Sta.weak (own := own') ⟨_, F, bS.trans (ext_s []), std.kept hS0 hF hT s2⟩ fun _ z => nomatch z)⟩
        | ok d =>
          rw [hz] at q
          intro v H' A' s2 f2 n2
          refine q v H' ⟨ext S H' [], F, A', bS.trans (ext_s []), std.kept hS0 hF hT s2, f2, fun a ha => ?_, fun j mj a ha hb => ?_⟩
          · obtain ⟨o, z1, z2⟩ := f2.soft a ha
            exact ext_none (hS0.free (n2 a ha)) (fun z => nomatch z) fun o' e' => by rw [z1] at e'; cases e'; exact z2
          · obtain ⟨_, o, z1, _⟩ := std.out j mj a hb
            have := hF j mj a hb o z1
            rw [n2 a ha] at this; cases this
end Vs

namespace Vs
open PySem PySem.Spec PyProof.Rows L2

/-! ### raise X('m'), X an own class -/
structure ExR (K : PySem.W.Frag) (mg : Str → Option Value) (x : Str) : Prop where
  ex : ∃ (C : Addr) (B newId initId : String) (bm : List Value), mg x = some (.ref C) ∧ ExcBaseFacts B newId initId bm ∧ PySem.W.excIn K C bm newId = true ∧ PySem.W.keepIn K (.ref C) = true ∧ PySem.W.subIn K (.ref C) (.type "BaseException") = some true ∧ PySem.W.typeIn K (.ref C) = some (.type "type")
structure ExRK (K : PySem.W.Frag) (x : Str) : Prop where
  ex : ∃ (C : Addr) (B newId initId : String) (bm : List Value), PySem.W.nsIn K mainGlobals x = some (some (.ref C)) ∧ ExcBaseFacts B newId initId bm ∧ PySem.W.excIn K C bm newId = true ∧ PySem.W.keepIn K (.ref C) = true ∧ PySem.W.subIn K (.ref C) (.type "BaseException") = some true ∧ PySem.W.typeIn K (.ref C) = some (.type "type")
theorem exRK_mk {K : PySem.W.Frag} {x : Str} {C : Addr} {B newId initId : String} {bm : List Value} (F : ExcBaseFacts B newId initId bm) (a : PySem.W.nsIn K mainGlobals x = some (some (.ref C))) (e : PySem.W.excIn K C bm newId = true) (k : PySem.W.keepIn K (.ref C) = true) (s : PySem.W.subIn K (.ref C) (.type "BaseException") = some true) (t : PySem.W.typeIn K (.ref C) = some (.type "type")) : ExRK K x := ⟨⟨C, B, newId, initId, bm, a, F, e, k, s, t⟩⟩
theorem exR_of {K : PySem.W.Frag} {h : Heap} {mg : Str → Option Value} {x : Str} (X : K.In h) (G : h.Ns mainGlobals mg) (d : ExRK K x) : ExR K mg x := by
  obtain ⟨C, B, newId, initId, bm, a, r⟩ := d.ex
  exact ⟨⟨C, B, newId, initId, bm, PySem.W.mg_of X G a, r⟩⟩
section
variable {X : Cx} {W : WX} {own own' own1 own2 : List Nat} {ol : Ol} {pos : Pos}
theorem vs_raiseX {x m : Str} {j : Nat} {p p2 p3 : Pos} (E : ExR X.K X.mg x) (hc : X.calm = true) (tk : Takes X W) (hg : Gl X x) (hdb : (x == ("__debug__" : Str)) = false := by decide) (we : ∀ i ∈ ol.e, i ∈ own := by first | decide | (dsimp only; decide)) :
    VS X W own own' ol (.Raise (some (.Call (.Name x p) [.Constant (.str m) j p2] [] p3)) none pos) (raiseS x) := by
  obtain ⟨C, B, newId, initId, bm, a, F, e, k, s, t⟩ := E.ex
  exact vs_raise hc tk (pmk_own F e a k (raises_own s t) hg hdb) a we
end

/-! ### try: body, except h as n: suite -/
/-- by class: whether the clause takes it -/
structure ExM (K : PySem.W.Frag) (mg : Str → Option Value) (h : Str) (tb : List (Str × Bool)) : Prop where
  ex : ∃ Ch, mg h = some (.ref Ch) ∧ ∀ c b, tb.lookup c = some b → ∃ C, mg c = some (.ref C) ∧ PySem.W.exmOne K (.ref C) (.ref Ch) = some b
/-- one pair -/
def ExP (K : PySem.W.Frag) (c h : Str) (b : Bool) : Prop := ∃ C Ch, PySem.W.nsIn K mainGlobals c = some (some (.ref C)) ∧ PySem.W.nsIn K mainGlobals h = some (some (.ref Ch)) ∧ PySem.W.subIn K (.ref Ch) (.type "BaseException") = some true ∧ PySem.W.hasDictIn K Ch = true ∧ PySem.W.typeIn K (.ref Ch) = some (.type "type") ∧ PySem.W.subIn K (.ref C) (.ref Ch) = some b
theorem exP_mk {K : PySem.W.Frag} {c h : Str} {b : Bool} {C Ch : Addr} (a1 : PySem.W.nsIn K mainGlobals c = some (some (.ref C))) (a2 : PySem.W.nsIn K mainGlobals h = some (some (.ref Ch))) (a3 : PySem.W.subIn K (.ref Ch) (.type "BaseException") = some true) (a4 : PySem.W.hasDictIn K Ch = true) (a5 : PySem.W.typeIn K (.ref Ch) = some (.type "type")) (a6 : PySem.W.subIn K (.ref C) (.ref Ch) = some b) : ExP K c h b := ⟨C, Ch, a1, a2, a3, a4, a5, a6⟩
theorem exM_nil {K : PySem.W.Frag} {mg : Str → Option Value} {h : Str} (e : ∃ Ch, mg h = some (.ref Ch)) : ExM K mg h [] := ⟨let ⟨Ch, e⟩ := e; ⟨Ch, e, fun c b q => nomatch q⟩⟩
theorem exM_cons {K : PySem.W.Frag} {hp : Heap} {mg : Str → Option Value} {h c : Str} {b : Bool} {tb : List (Str × Bool)} (X : K.In hp) (G : hp.Ns mainGlobals mg) (p : ExP K c h b) (r : ExM K mg h tb) : ExM K mg h ((c, b) :: tb) := by
  obtain ⟨C, Ch, a1, a2, a3, a4, a5, a6⟩ := p
  obtain ⟨Dh, e, r⟩ := r.ex
  have e2 := PySem.W.mg_of X G a2
  rw [e] at e2
  cases e2
  refine ⟨⟨_, e, fun c' b' q => ?_⟩⟩
  rw [List.lookup_cons] at q
  split at q
  · rename_i z
    have z : c' = c := by simpa using z
    subst z
    cases q
    exact ⟨C, PySem.W.mg_of X G a1, PySem.W.exm_ref a3 a4 a5 a6⟩
  · exact r c' b' q
def wipeSr (i : Nat) : Sr → Sr
  | .nx ρ => .nx (ρ.set i none)
  | .bk ρ => .bk (ρ.set i none)
  | .ct ρ => .ct (ρ.set i none)
  | .rt d => .rt d
  | .rb _ _ => .st
  | .ex _ _ => .st
  | .st => .st
open Classical in
noncomputable def tokS (i : Nat) (s : Addr → Env → Sr) (ρ : Env) : Sr := if h : ∃ r, ∀ a, wipeSr i (s a (ρ.set i (some (.exc "" a)))) = r then Classical.choose h else .st
theorem tokS_eq {i : Nat} {s : Addr → Env → Sr} {ρ : Env} {r : Sr} (h : ∀ a, wipeSr i (s a (ρ.set i (some (.exc "" a)))) = r) : tokS i s ρ = r := by
  have hx : ∃ r, ∀ a, wipeSr i (s a (ρ.set i (some (.exc "" a)))) = r := ⟨r, h⟩
  unfold tokS
  rw [dif_pos hx, ← Classical.choose_spec hx 0]
  exact h 0
noncomputable def tryAsS (i : Nat) (tb : List (Str × Bool)) (b : Env → Sr) (s : Str → Addr → Env → Sr) (ρ : Env) : Sr := match b ρ with
  | .ex c ρ' => (match tb.lookup c with
    | some true => tokS i (s c) ρ'
    | some false => .ex c ρ'
    | none => .st)
  | r => r
section
variable {X : Cx} {W : WX} {own own' own1 own2 : List Nat} {ol : Ol} {pos : Pos} {b : Env → Sr} {s : Str → Addr → Env → Sr} {tb : List (Str × Bool)} {oe : List Nat}
theorem Stx.unset {K : PySem.W.Frag} {S H : Hp} {F : Nat → List Addr} {ρ : Env} {σ : L2.St} {own own' : List Nat} (h : Stx own K S F ρ σ H) {i : Nat} (w : ∀ j ∈ own', j ∈ own) (w2 : ∀ j ∈ own, j ∉ own' → j = i) : Stx own' K S F (ρ.set i none) (σ.set i none) H := by
  refine ⟨by rw [List.length_set, List.length_set]; exact h.len, h.sub, h.cl, fun j d q => ?_, fun j m => h.out j (w j m), fun j m k n => h.dis j (w j m) k (w k n)⟩
  rcases get_set q with ⟨_, e, _⟩ | ⟨ne, q⟩
  · cases e
  · obtain ⟨v, h1, h2, h3⟩ := h.val j d q
    exact ⟨v, by rw [List.getElem?_set_ne (Ne.symm ne)]; exact h1, fun m => h2 (w j m), fun m => h3 fun z => ne (w2 j z m)⟩
theorem Sta.unset {K : PySem.W.Frag} {B H : Hp} {ρ : Env} {σ : L2.St} {own own' : List Nat} (h : Sta own B K ρ σ H) (i : Nat) (w : ∀ j ∈ own', j ∈ own) : Sta own' B K (ρ.set i none) (σ.set i none) H := by
  obtain ⟨S, F, b, x⟩ := h.weak w
  exact ⟨S, F, b, x.unset (fun j m => m) fun j m n => absurd m n⟩
theorem vs_tryAs (i : Nat) {h n : Str} {body suite : List Stmt} {b₀ : Stmt} {np pos' : Pos} (E : ExM X.K X.mg h tb) (hs : X.stack = X.env :: X.outer) (hf : X.env.frame = some X.env.locals) (hN : X.N.Nodup) (hi : X.N[i]? = some n) (hln : X.env.kindOf n = some .local) (hg : Gl X h)  (tk : Takes X W)
    (hb : ∀ (W : WX) (pn : List (Addr × Obj)) (xe : Value → Shared → Prop), Takes (X.tr pn xe) W → PassesOwn (model X.prog X.w) X.A X.env xe → VSs (X.tr pn xe) W own own1 { ol with e := oe } body b)
    (hsu : ∀ (c : Str) (C : Addr), X.mg c = some (.ref C) → tb.lookup c = some true → ∀ (a : Addr) (ob : Obj) (pn : List (Addr × Obj)), Zc (.ref C) none ob → (∃ vs, ob.data = .fields vs) → VSs (X.suite a ((a, ob) :: pn)) (fun _ _ _ _ => False) oe own2 { ol with e := [] } (b₀ :: suite) (s c a))
    (w1 : ∀ i ∈ own', i ∈ own1 := by decide) (w2 : ∀ i ∈ own', i ∈ own2 := by decide) (w3 : i ∉ oe := by decide) (w4 : ∀ j ∈ ol.e, j ∈ oe := by first | decide | (dsimp only; decide)) (hpi : ol.P i = none := by rfl) (hdb : (h == ("__debug__" : Str)) = false := by decide) :
    VS X W own own' ol (.Try body [.ExceptHandler (some (.Name h np)) (some n) (b₀ :: suite) pos'] [] [] pos) (tryAsS i tb b s) := by
  obtain ⟨Ch, eh, E⟩ := E.ex
  refine ⟨psW (ps_try_as (i := i) (c := .ref Ch) (Wout := W) (tb := fun W => tS X.K X.mg W own own1 { ol with e := oe } b)
    (ts := fun a cls d => fun D σ H => d = none ∧ ∃ (c : Str) (C : Addr), X.mg c = some (.ref C) ∧ tb.lookup c = some true ∧ cls = .ref C ∧ tS X.K X.mg (fun _ _ _ _ => False) oe own2 { ol with e := [] } (s c a) D σ H) hs hf hN hi hln ⟨hg, hdb, .inl eh⟩ tk
    (fun W pn xe tk po => (hb W pn xe tk po).ps) (fun a ob cls d pn hz hf => ⟨fun pins s σ H D I ⟨hd, c, C, hc, ht, hcls, t⟩ => ?_⟩)) fun D σ H ⟨B, ρ, x, pn, q⟩ => ⟨B, ρ, x, pn, ?_⟩⟩
  · subst hd hcls
    exact (hsu c C hc ht a ob pn hz hf).ps.run pins s σ H D I t
  · unfold tryAsS at q
    cases e : b ρ with
    | st => rw [e] at q; exact q.elim
    | nx ρ' => rw [e] at q; exact fun σ H y => q σ H (y.weak w1)
    | rt d => rw [e] at q; exact q
    | rb d ρ' => rw [e] at q; exact q
    | bk ρ' => rw [e] at q; exact q
    | ct ρ' => rw [e] at q; exact q
    | ex c ρ' =>
      rw [e] at q
      simp only at q
      cases et : tb.lookup c with
      | none => rw [et] at q; exact q.elim
      | some k =>
        rw [et] at q
        cases k with
        | false =>
          obtain ⟨C, hC, q⟩ := q
          obtain ⟨C2, h2, e2⟩ := E c false et
          rw [hC] at h2
          cases h2
          exact ⟨C, hC, fun σ' H' y pz => ⟨false, e2, (fun z => nomatch z), fun _ => q σ' H' (y.weak w4) pz⟩⟩
        | true =>
          simp only at q
          by_cases hx : ∃ r, ∀ a, wipeSr i (s c a (ρ'.set i (some (.exc "" a)))) = r
          rotate_left
          · unfold tokS at q
            rw [dif_neg hx] at q
            exact q.elim
          obtain ⟨r, hr⟩ := hx
          rw [tokS_eq hr] at q
          obtain ⟨C, hC, eC⟩ := E c true et
          refine ⟨C, hC, fun σ' H' y pz => ⟨true, eC, fun _ a ha => ⟨rfl, c, C, hC, et, rfl, B, ρ'.set i (some (.exc "" a)), ?_, pz.set hpi, ?_⟩, (fun z => nomatch z)⟩⟩
          · obtain ⟨S, F, bS, y⟩ := y
            exact ⟨S, F, bS, y.lay w3 (.exc "" a)⟩
          · have hra := hr a
            cases es : s c a (ρ'.set i (some (.exc "" a))) with
            | st => rw [es] at hra; subst hra; exact q.elim
            | nx ρ2 => rw [es] at hra; subst hra; exact fun σ2 H2 y2 pz => q _ _ (y2.unset i w2) (pz.set hpi)
            | rt d => rw [es] at hra; subst hra; exact q
            | bk ρ2 => rw [es] at hra; subst hra; exact fun σ2 H2 y2 pz => q _ _ (y2.unset i fun j m => m) (pz.set hpi)
            | ct ρ2 => rw [es] at hra; subst hra; exact fun σ2 H2 y2 pz => q _ _ (y2.unset i fun j m => m) (pz.set hpi)
            | rb d ρ2 => rw [es] at hra; subst hra; exact q.elim
            | ex c2 ρ2 => rw [es] at hra; subst hra; exact q.elim
end

/-! ### isinstance(e, x), e the caught error -/
/-- of an error of the class c: whether it is an x -/
def IsP (K : PySem.W.Frag) (mg : Str → Option Value) (c x : Str) (b : Bool) : Prop := ∃ C cv, mg c = some (.ref C) ∧ ExcC K C ∧ (mg x = some cv ∨ (mg x = none ∧ bootBuiltins x = some cv)) ∧ PySem.W.kitOne K (.ref C) cv = some b
structure IsT (K : PySem.W.Frag) (mg : Str → Option Value) (tb : List (Str × List (Str × Bool))) : Prop where
  ex : ∀ c l, tb.lookup c = some l → ∀ x b, l.lookup x = some b → IsP K mg c x b
def isXR (tb : List (Str × List (Str × Bool))) (c x : Str) : R D := match tb.lookup c with
  | some l => (match l.lookup x with
    | some b => .ok (.bl b)
    | none => .st)
  | none => .st
def isE (i : Nat) (a : Addr) (r : R D) (ρ : Env) : R D := match ρ[i]? with
  | some (some (.exc _ a')) => if a' = a then r else .st
  | _ => .st
theorem isXR_ok {tb : List (Str × List (Str × Bool))} {c x : Str} {K : PySem.W.Frag} {mg : Str → Option Value} (T : IsT K mg tb) : isXR tb c x = .st ∨ ∃ b, isXR tb c x = .ok (.bl b) ∧ IsP K mg c x b := by
  unfold isXR
  split
  · rename_i l hl
    split
    · rename_i b hb
      exact .inr ⟨b, rfl, T.ex c l hl x b hb⟩
    · exact .inl rfl
  · exact .inl rfl
section
variable {X : Cx} {W : WX} {C a : Addr} {oe : Obj} {pn : List (Addr × Obj)} {tb : List (Str × List (Str × Bool))} {c n x : Str} {p p1 p2 pos : Pos} {i : Nat}
theorem vg_isE_core {v : V} {cv : Value} (T : IsT X.K X.mg tb) (hc : X.mg c = some (.ref C)) (hz : Zc (.ref C) none oe) (hf : ∃ vs, oe.data = .fields vs)
    (hg : Gl (X.suite a ((a, oe) :: pn)) "isinstance") (hm : X.mg "isinstance" = none) (pv : PE (X.suite a ((a, oe) :: pn)) (.Name n p1) (tVar i)) (hT : PE (X.suite a ((a, oe) :: pn)) (.Name x p2) (tC v)) (hv : ∀ u, RelV v u → u = cv)
    (hx : ∀ cv', (X.mg x = some cv' ∨ (X.mg x = none ∧ bootBuiltins x = some cv')) → cv' = cv)
    (he : starEach [.Name n p1, .Name x p2] (X.suite a ((a, oe) :: pn)).env = (false, eval (.Name n p1) X.env) :: starEach [.Name x p2] X.env := by rfl) (he2 : starEach [.Name x p2] (X.suite a ((a, oe) :: pn)).env = [(false, eval (.Name x p2) X.env)] := by rfl) (hpl : (backTo pos (starEach [.Name x p2] (X.suite a ((a, oe) :: pn)).env)).any (·.1) = false := by rfl) :
    VG (X.suite a ((a, oe) :: pn)) W (.Call (.Name "isinstance" p) [.Name n p1, .Name x p2] [] pos) (isE i a (isXR tb c x)) := by
  rcases isXR_ok (c := c) (x := x) T with e | ⟨b, e, C', cv', h1, h2, h3, h4⟩
  · refine ⟨⟨fun pins s σ H Q I ⟨ρ, re, q⟩ => ?_⟩⟩
    unfold isE at q
    rw [e] at q
    exfalso
    split at q
    · split at q
      · exact q
      · exact q
    · exact q
  · rw [hc] at h1
    cases h1
    have ecv := hx cv' h3
    subst ecv
    refine ⟨peW (pe_callB (call_isE h2 hz hf) hg hm boot_isinstance (pa_cons pv (pa_cons hT pa_nil he2) he) (by decide) (by decide) he hpl) fun σ H Q ⟨ρ, re, q⟩ => ?_⟩
    unfold isE at q
    rw [e] at q
    split at q
    · rename_i e0 a' ea
      split at q
      · rename_i z
        subst z
        obtain ⟨w, g1, g2⟩ := re.val i _ ea
        cases g2
        exact ⟨_, g1, v, cv', b, rfl, hv, h4, q _ H [] (Same.refl H) (.bl _) (fun _ h => nomatch h)⟩
      · exact q.elim
    · exact q.elim
/-- x an own class -/
theorem vg_isE {Cx' : Addr} (T : IsT X.K X.mg tb) (hc : X.mg c = some (.ref C)) (hz : Zc (.ref C) none oe) (hf : ∃ vs, oe.data = .fields vs)
    (hg : Gl (X.suite a ((a, oe) :: pn)) "isinstance") (hm : X.mg "isinstance" = none) (pv : PE (X.suite a ((a, oe) :: pn)) (.Name n p1) (tVar i)) (hgx : Gl (X.suite a ((a, oe) :: pn)) x) (hx : ∃ C, X.mg x = some (.ref C)) (hdb : (x == ("__debug__" : Str)) = false := by decide)
    (he : starEach [.Name n p1, .Name x p2] (X.suite a ((a, oe) :: pn)).env = (false, eval (.Name n p1) X.env) :: starEach [.Name x p2] X.env := by rfl) (he2 : starEach [.Name x p2] (X.suite a ((a, oe) :: pn)).env = [(false, eval (.Name x p2) X.env)] := by rfl) (hpl : (backTo pos (starEach [.Name x p2] (X.suite a ((a, oe) :: pn)).env)).any (·.1) = false := by rfl) :
    VG (X.suite a ((a, oe) :: pn)) W (.Call (.Name "isinstance" p) [.Name n p1, .Name x p2] [] pos) (isE i a (isXR tb c x)) := by
  obtain ⟨Cy, hy⟩ := hx
  exact vg_isE_core (v := .ref Cy) (cv := .ref Cy) T hc hz hf hg hm pv (pe_glob hgx hy rfl hdb) (fun u r => r) (fun cv' q => by rcases q with q | ⟨q, _⟩ <;> rw [hy] at q <;> cases q; rfl) he he2 hpl
/-- x a built-in class -/
theorem vg_isEB {t : String} (T : IsT X.K X.mg tb) (hc : X.mg c = some (.ref C)) (hz : Zc (.ref C) none oe) (hf : ∃ vs, oe.data = .fields vs)
    (hg : Gl (X.suite a ((a, oe) :: pn)) "isinstance") (hm : X.mg "isinstance" = none) (pv : PE (X.suite a ((a, oe) :: pn)) (.Name n p1) (tVar i)) (hgx : Gl (X.suite a ((a, oe) :: pn)) x) (hx : X.mg x = none) (hb : bootBuiltins x = some (.type t)) (hn : x ≠ "__name__" := by decide) (hdb : (x == ("__debug__" : Str)) = false := by decide)
    (he : starEach [.Name n p1, .Name x p2] (X.suite a ((a, oe) :: pn)).env = (false, eval (.Name n p1) X.env) :: starEach [.Name x p2] X.env := by rfl) (he2 : starEach [.Name x p2] (X.suite a ((a, oe) :: pn)).env = [(false, eval (.Name x p2) X.env)] := by rfl) (hpl : (backTo pos (starEach [.Name x p2] (X.suite a ((a, oe) :: pn)).env)).any (·.1) = false := by rfl) :
    VG (X.suite a ((a, oe) :: pn)) W (.Call (.Name "isinstance" p) [.Name n p1, .Name x p2] [] pos) (isE i a (isXR tb c x)) :=
  vg_isE_core (v := .ty t) (cv := .type t) T hc hz hf hg hm pv (pe_bltn hgx hx hb rfl hn hdb) (fun u r => r) (fun cv' q => q.elim (fun q => by rw [hx] at q; cases q) fun ⟨_, q⟩ => by rw [hb] at q; cases q; rfl) he he2 hpl
end
/-- the facts of a class of errors -/
theorem isT_nil {K : PySem.W.Frag} {mg : Str → Option Value} : IsT K mg [] := ⟨fun c l q => nomatch q⟩
def ExcK (K : PySem.W.Frag) (c : Str) : Prop := ∃ C, PySem.W.nsIn K mainGlobals c = some (some (.ref C)) ∧ ExcC K C
theorem excK_mk {K : PySem.W.Frag} {c : Str} {C : Addr} (a : PySem.W.nsIn K mainGlobals c = some (some (.ref C))) (h1 : PySem.W.findIn K (.ref C) "__getattribute__" = some (some (.builtin "BaseException.__getattribute__")))
    (h2 : PySem.W.findIn K (.ref C) "__getattr__" = some none) (h3 : PySem.W.subIn K (.ref C) (.type "BaseException") = some true) (h4 : PySem.W.hasDictIn K C = true) (h5 : PySem.W.findIn K (.ref C) "__class__" = some (some (.builtin "object.__class__")))
    (h6 : PySem.W.specialIn K (.builtin "object.__class__") "__get__" = some (some (.builtin "getset_descriptor.__get__"))) (h7 : PySem.W.takesIn K (.builtin "object.__class__") = some true) (h8 : PySem.W.mroIn K C (.type "object") = some true) : ExcK K c := ⟨C, a, h1, h2, h3, h4, h5, h6, h7, h8⟩
/-- own class, built-in class -/
def KitO (K : PySem.W.Frag) (c x : Str) (b : Bool) : Prop := ∃ C D, PySem.W.nsIn K mainGlobals c = some (some (.ref C)) ∧ PySem.W.nsIn K mainGlobals x = some (some (.ref D)) ∧ PySem.W.kitOne K (.ref C) (.ref D) = some b
theorem kitO_mk {K : PySem.W.Frag} {c x : Str} {b : Bool} {C D : Addr} (a : PySem.W.nsIn K mainGlobals c = some (some (.ref C))) (d : PySem.W.nsIn K mainGlobals x = some (some (.ref D))) (e1 : PySem.W.isClsIn K D = true) (e2 : PySem.W.typeIn K (.ref D) = some (.type "type")) (e3 : PySem.W.subIn K (.ref C) (.ref D) = some b) (ne : b = true ∨ C ≠ D) : KitO K c x b := by
  refine ⟨C, D, a, d, ?_⟩
  unfold PySem.W.kitOne
  by_cases z : (Value.ref C == Value.ref D) = true
  · rw [if_pos z]
    rcases ne with e | ne
    · rw [e]
    · exact absurd (Value.ref.inj (beq_iff_eq.mp z)) ne
  · rw [if_neg z]
    show (if ((PySem.W.clsIn K D).isSome && PySem.W.typeIn K (.ref D) == some (.type "type")) = true then PySem.W.subIn K (.ref C) (.ref D) else none) = some b
    rw [if_pos (by rw [e2]; have e1' : (PySem.W.clsIn K D).isSome = true := e1; rw [e1']; rfl)]
    exact e3
def KitB (K : PySem.W.Frag) (c x : Str) (b : Bool) : Prop := ∃ C t, PySem.W.nsIn K mainGlobals c = some (some (.ref C)) ∧ PySem.W.nsIn K mainGlobals x = some none ∧ bootBuiltins x = some (.type t) ∧ PySem.W.kitOne K (.ref C) (.type t) = some b
theorem kitB_mk {K : PySem.W.Frag} {c x : Str} {b : Bool} {C : Addr} {t : String} (a : PySem.W.nsIn K mainGlobals c = some (some (.ref C))) (d : PySem.W.nsIn K mainGlobals x = some none) (bt : bootBuiltins x = some (.type t)) (m : PySem.W.kitMeta t = true) (e : PySem.W.subIn K (.ref C) (.type t) = some b) : KitB K c x b := ⟨C, t, a, d, bt, by
  unfold PySem.W.kitOne
  rw [if_neg (by simp)]
  show (if PySem.W.kitMeta t = true then PySem.W.subIn K (.ref C) (.type t) else none) = some b
  rw [if_pos m]
  exact e⟩
section
variable {K : PySem.W.Frag} {h : Heap} {mg : Str → Option Value} {c x : Str} {b : Bool}
theorem isP_own (X : K.In h) (G : h.Ns mainGlobals mg) (e : ExcK K c) (k : KitO K c x b) : IsP K mg c x b := by
  obtain ⟨C, a, e⟩ := e
  obtain ⟨C', D, a', d, k⟩ := k
  rw [a] at a'
  cases a'
  exact ⟨C, _, PySem.W.mg_of X G a, e, .inl (PySem.W.mg_of X G d), k⟩
theorem isP_blt (X : K.In h) (G : h.Ns mainGlobals mg) (e : ExcK K c) (k : KitB K c x b) : IsP K mg c x b := by
  obtain ⟨C, a, e⟩ := e
  obtain ⟨C', t, a', d, bt, k⟩ := k
  rw [a] at a'
  cases a'
  exact ⟨C, _, PySem.W.mg_of X G a, e, .inr ⟨PySem.W.mg_none_of X G d, bt⟩, k⟩
/-- a row of the table -/
def IsRow (K : PySem.W.Frag) (mg : Str → Option Value) (c : Str) (l : List (Str × Bool)) : Prop := ∀ x b, l.lookup x = some b → IsP K mg c x b
theorem isRow_nil : IsRow K mg c [] := fun x b q => nomatch q
theorem isRow_cons {l : List (Str × Bool)} (p : IsP K mg c x b) (r : IsRow K mg c l) : IsRow K mg c ((x, b) :: l) := fun x' b' q => by
  rw [List.lookup_cons] at q
  split at q
  · rename_i z
    have z : x' = x := by simpa using z
    subst z
    cases q
    exact p
  · exact r x' b' q
theorem isT_cons {l : List (Str × Bool)} {tb : List (Str × List (Str × Bool))} (p : IsRow K mg c l) (r : IsT K mg tb) : IsT K mg ((c, l) :: tb) := ⟨fun c' l' q => by
  rw [List.lookup_cons] at q
  split at q
  · rename_i z
    have z : c' = c := by simpa using z
    subst z
    cases q
    exact p
  · exact r.ex c' l' q⟩
end

/-! ### texts: sign in text, x.index(y) -/
def inSignD : D → D → R D
  | .str x, .str z => match x.cps.toList with
    | [c] => .ok (.bl (decide (c ∈ z.cps.toList)))
    | _ => .st
  | _, _ => .st
def ninSignD : D → D → R D
  | .str x, .str z => match x.cps.toList with
    | [c] => .ok (.bl (!decide (c ∈ z.cps.toList)))
    | _ => .st
  | _, _ => .st
theorem nx_inSign : NoEx2 inSignD := fun d e c h => by unfold inSignD at h; split at h <;> first | cases h | (split at h <;> cases h)
theorem nx_ninSign : NoEx2 ninSignD := fun d e c h => by unfold ninSignD at h; split at h <;> first | cases h | (split at h <;> cases h)
section
variable {X : Cx} {W : WX} {o e : Expr} {f h : Env → R D} {apos pos : Pos}
theorem str1 {x : Str} {c : Nat} (h : x.cps.toList = [c]) : x = ⟨#[c]⟩ := by
  obtain ⟨⟨l⟩⟩ := x
  simp at h
  subst h
  rfl
theorem d_inSign : OpD X (fun x y H Q => ∃ (c : Nat) (z : Str), x = .str ⟨#[c]⟩ ∧ y = .str z ∧ Q (.bl (decide (c ∈ z.cps.toList))) H) inSignD := fun x y d e H Q z rx ry h q => by
  unfold inSignD at h
  split at h
  · split at h
    · rename_i c hc
      cases h
      cases rx
      cases ry
      exact ⟨c, _, by rw [str1 hc], rfl, q _ H [] (Same.refl H) (.bl _) (fun _ h => nomatch h)⟩
    · cases h
  · cases h
theorem d_ninSign : OpD X (fun x y H Q => ∃ (c : Nat) (z : Str), x = .str ⟨#[c]⟩ ∧ y = .str z ∧ Q (.bl (!decide (c ∈ z.cps.toList))) H) ninSignD := fun x y d e H Q z rx ry h q => by
  unfold ninSignD at h
  split at h
  · split at h
    · rename_i c hc
      cases h
      cases rx
      cases ry
      exact ⟨c, _, by rw [str1 hc], rfl, q _ H [] (Same.refl H) (.bl _) (fun _ h => nomatch h)⟩
    · cases h
  · cases h
def indexG (a : Str) : D → R D
  | .str b => match Txt.index0 a b with
    | some k => .ok (.int (k : Nat))
    | none => .st
  | _ => .st
theorem vg_index (hc : X.calm = true) (tk : Takes X W) (ho : VE X W o f) (he : VE X W e h)
    (hbase : attributeBase o "index" X.env (eval o X.env) = eval o X.env := by rfl)
    (hfew : ((backTo pos (starEach (e :: []) X.env)).all (fun x => !x.1) && (backToKw pos (keywordEach [] X.env)).all (fun x => x.1.isSome)
      && decide ((e :: []).length + ([] : List Keyword).length + (if ([] : List Keyword).isEmpty then 0 else 1) < 30)) = true := by rfl)
    (hline : (apos.endLine == pos.line) = true := by rfl) (hs : starEach (e :: []) X.env = (false, eval e X.env) :: starEach [] X.env := by rfl) (hplain : (backTo pos (starEach [] X.env)).any (·.1) = false := by rfl) :
    VG X W (.Call (.Attribute o "index" apos) [e] [] pos) (m1E indexG f h) :=
  ⟨peW (pe_bmS PySem.F.plainAttrs_str PySem.F.slot_str_index PySem.F.type_str_index (mt_indexX hc tk) ho.pe (pa_cons he.pe pa_nil hs) hbase hfew hline hs hplain) fun σ H Q ⟨ρ, re, q⟩ => ⟨ρ, re, (Out.bind q).mono fun d _ q v H1 s1 r1 => by
    cases d with
    | str a =>
      cases r1
      refine ⟨rfl, ρ, re.mono s1, ((Out.bind (show Out X.mg W σ H ((h ρ).bind (indexG a)) _ from q)).up s1).mono fun e _ q w H2 s2 r2 => ?_⟩
      cases e with
      | str b =>
        cases r2
        refine ⟨a, b, rfl, rfl, fun k hk => ?_, fun hn => ?_⟩
        · simp only [indexG, hk] at q
          exact q _ H2 [] (s1.trans s2) (.int _) (fun _ h => nomatch h)
        · simp only [indexG, hn] at q
          exact q.elim
      | _ => exact q.elim
    | _ => exact q.elim⟩⟩
end
end Vs
namespace Vs
open PySem PySem.Spec PyProof.Rows L2
theorem ExR.cl {K : PySem.W.Frag} {mg : Str → Option Value} {x : Str} (e : ExR K mg x) : ∃ C, mg x = some (.ref C) := let ⟨C, _, _, _, _, q, _⟩ := e.ex; ⟨C, q⟩
section
variable {X : Cx}
theorem md_startswith : MtD X (fun x xs H Q => ∃ a b, x = .str a ∧ xs = [.str b] ∧ Q (.bl (Txt.startswith a b)) H) startsG := fun a v d H Q z rd hz q => by
  unfold startsG at hz
  split at hz
  · cases hz
    cases rd
    exact ⟨_, _, rfl, rfl, q _ H [] (Same.refl H) (.bl _) (fun _ h => nomatch h)⟩
  · cases hz
theorem mn_startswith : ∀ a d c, startsG a d ≠ .ex c := fun a d c h => by
  unfold startsG at h
  split at h <;> cases h
theorem md_count : MtD X (fun x xs H Q => ∃ a b, x = .str a ∧ xs = [.str b] ∧ Q (.int (Txt.count a b)) H) countG := fun a v d H Q z rd hz q => by
  unfold countG at hz
  split at hz
  · cases hz
    cases rd
    exact ⟨_, _, rfl, rfl, q _ H [] (Same.refl H) (.int _) (fun _ h => nomatch h)⟩
  · cases hz
theorem mn_count : ∀ a d c, countG a d ≠ .ex c := fun a d c h => by
  unfold countG at h
  split at h <;> cases h
theorem md_find : MtD X (fun x xs H Q => ∃ a b, x = .str a ∧ xs = [.str b] ∧ Q (.int (Txt.find a b)) H) findG := fun a v d H Q z rd hz q => by
  unfold findG at hz
  split at hz
  · cases hz
    cases rd
    exact ⟨_, _, rfl, rfl, q _ H [] (Same.refl H) (.int _) (fun _ h => nomatch h)⟩
  · cases hz
theorem mn_find : ∀ a d c, findG a d ≠ .ex c := fun a d c h => by
  unfold findG at h
  split at h <;> cases h
end
end Vs

namespace Vs
open PySem PySem.Spec PyProof.Rows L2

/-! ### outcomes that change slots -/
inductive RX (α : Type) where
  | st | ok (a : α) (ρ : Env) | ex (c : Str) (ρ : Env)
def RX.bind {α β : Type} : RX α → (α → Env → RX β) → RX β
  | .st, _ => .st
  | .ok a ρ, f => f a ρ
  | .ex c ρ, _ => .ex c ρ
@[simp] theorem RX.bind_ok {α β : Type} (a : α) (ρ : Env) (f : α → Env → RX β) : (RX.ok a ρ).bind f = f a ρ := rfl
@[simp] theorem RX.bind_st {α β : Type} (f : α → Env → RX β) : (RX.st).bind f = .st := rfl
@[simp] theorem RX.bind_ex {α β : Type} (c : Str) (ρ : Env) (f : α → Env → RX β) : (RX.ex c ρ).bind f = .ex c ρ := rfl
def liftR {α : Type} (r : R α) (ρ : Env) : RX α := match r with
  | .ok a => .ok a ρ
  | .ex c => .ex c ρ
  | .st => .st
def liftX {α : Type} (f : Env → R α) (ρ : Env) : RX α := liftR (f ρ) ρ
section
variable {α β : Type} {K : PySem.W.Frag} {mg : Str → Option Value} {W : WX} {own : List Nat} {B B' : Hp} {σ : L2.St} {H H' : Hp}
def OutX (K : PySem.W.Frag) (mg : Str → Option Value) (W : WX) (own : List Nat) (B : Hp) (σ : L2.St) (r : RX α) (P : α → Env → Prop) : Prop := match r with
  | .ok a ρ => P a ρ
  | .ex c ρ => ∃ C, mg c = some (.ref C) ∧ ∀ H', Sta own B K ρ σ H' → W (.ref C) none σ H'
  | .st => False
theorem OutX.bind {r : RX α} {g : α → Env → RX β} {P : β → Env → Prop} (h : OutX K mg W own B σ (r.bind g) P) : OutX K mg W own B σ r fun a ρ => OutX K mg W own B σ (g a ρ) P := by
  cases r with
  | ok a ρ => exact h
  | ex c ρ => exact h
  | st => exact h
theorem OutX.mono {r : RX α} {P P' : α → Env → Prop} (h : OutX K mg W own B σ r P) (q : ∀ a ρ, r = .ok a ρ → P a ρ → P' a ρ) : OutX K mg W own B σ r P' := by
  cases r with
  | ok a ρ => exact q a ρ rfl h
  | ex c ρ => exact h
  | st => exact h
theorem OutX.up {r : RX α} {P : α → Env → Prop} (h : OutX K mg W own B σ r P) (e : Same B B') : OutX K mg W own B' σ r P := by
  cases r with
  | ok a ρ => exact h
  | ex c ρ => obtain ⟨C, h1, h2⟩ := h; exact ⟨C, h1, fun H2 s => h2 H2 (s.down e)⟩
  | st => exact h
/-- from what changes nothing -/
theorem OutX.lift {r : R α} {ρ : Env} {P : α → Env → Prop} (st : Sta own B K ρ σ H) (h : OutX K mg W own B σ (liftR r ρ) P) : Out mg W σ H r fun a => P a ρ := by
  cases r with
  | ok a => exact h
  | ex c => obtain ⟨C, h1, h2⟩ := h; exact ⟨C, h1, fun H' s => h2 H' (st.grow s)⟩
  | st => exact h
end
inductive Arg where
  | sl (j : Nat) | vl (d : D)
/-- the values of arguments: slots' things, and new ones -/
inductive AOk (K : PySem.W.Frag) (own : List Nat) (σ : L2.St) (H : Hp) : List V → List Arg → List Addr → Prop
  | nil : AOk K own σ H [] [] []
  | sl {j : Nat} {v : V} {vs : List V} {as : List Arg} {A : List Addr} : j ∈ own → σ[j]? = some (some v) → AOk K own σ H vs as A → AOk K own σ H (v :: vs) (.sl j :: as) A
  | vl {v : V} {d : D} {A1 : List Addr} {vs : List V} {as : List Arg} {A : List Addr} : Fu K H v d A1 → AOk K own σ H vs as A → (∀ a ∈ A1, a ∉ A) → AOk K own σ H (v :: vs) (.vl d :: as) (A1 ++ A)
def StaA (own : List Nat) (B : Hp) (K : PySem.W.Frag) (ρ : Env) (σ : L2.St) (H : Hp) (vs : List V) (as : List Arg) : Prop := ∃ S F A, Same B S ∧ Stx own K S F ρ σ H ∧ AOk K own σ H vs as A ∧ (∀ a ∈ A, S a = none) ∧ ∀ j ∈ own, ∀ a ∈ A, a ∉ F j
section
variable {K : PySem.W.Frag} {own : List Nat} {σ : L2.St} {H H' S : Hp}
theorem AOk.soft {vs : List V} {as : List Arg} {A : List Addr} (h : AOk K own σ H vs as A) : ∀ a ∈ A, ∃ o, H a = some o ∧ ¬ Stt o := by
  induction h with
  | nil => exact fun a m => nomatch m
  | sl _ _ _ ih => exact ih
  | vl f _ _ ih => exact fun a m => (List.mem_append.mp m).elim (fun z => f.soft a z) (ih a)
theorem AOk.length {vs : List V} {as : List Arg} {A : List Addr} (h : AOk K own σ H vs as A) : vs.length = as.length := by
  induction h with
  | nil => rfl
  | sl _ _ _ ih => rw [List.length_cons, List.length_cons, ih]
  | vl _ _ _ ih => rw [List.length_cons, List.length_cons, ih]
theorem aok_split {vs : List V} {as : List Arg} {A : List Addr} (h : AOk K own σ H vs as A) : ∃ G : Nat → List Addr, (∀ (i : Nat) (d : D), as[i]? = some (Arg.vl d) → ∃ v, vs[i]? = some v ∧ Fu K H v d (G i)) ∧
    (∀ (i j : Nat), as[i]? = some (Arg.sl j) → j ∈ own ∧ ∃ v, vs[i]? = some v ∧ σ[j]? = some (some v)) ∧ (∀ i, ∀ a ∈ G i, a ∈ A) ∧ ∀ i j, i ≠ j → ∀ a ∈ G i, a ∉ G j := by
  induction h with
  | nil => exact ⟨fun _ => [], (fun i d h => by simp at h), (fun i d h => by simp at h), (fun _ _ h => nomatch h), fun _ _ _ _ h => nomatch h⟩
  | @sl j v vs as A hj hv r ih =>
    obtain ⟨G, g1, g2, g3, g4⟩ := ih
    refine ⟨fun i => match i with | 0 => [] | i + 1 => G i, fun i d q => ?_, fun i k q => ?_, fun i a ha => ?_, fun i k ne a ha hb => ?_⟩
    · cases i with
      | zero => simp at q
      | succ i => simpa using g1 i d (by simpa using q)
    · cases i with
      | zero => simp at q; subst q; exact ⟨hj, v, rfl, hv⟩
      | succ i => simpa using g2 i k (by simpa using q)
    · cases i with
      | zero => cases ha
      | succ i => exact g3 i a ha
    · cases i with
      | zero => cases ha
      | succ i => cases k with
        | zero => cases hb
        | succ k => exact g4 i k (fun e => ne (by rw [e])) a ha hb
  | @vl v d A1 vs as A f r m ih =>
    obtain ⟨G, g1, g2, g3, g4⟩ := ih
    refine ⟨fun i => match i with | 0 => A1 | i + 1 => G i, fun i d q => ?_, fun i k q => ?_, fun i a ha => ?_, fun i k ne a ha hb => ?_⟩
    · cases i with
      | zero => simp at q; subst q; exact ⟨v, rfl, f⟩
      | succ i => simpa using g1 i d (by simpa using q)
    · cases i with
      | zero => simp at q
      | succ i => simpa using g2 i k (by simpa using q)
    · cases i with
      | zero => exact List.mem_append_left _ ha
      | succ i => exact List.mem_append_right _ (g3 i a ha)
    · cases i with
      | zero => cases k with
        | zero => exact ne rfl
        | succ k => exact m a ha (g3 k a hb)
      | succ i => cases k with
        | zero => exact m a hb (g3 i a ha)
        | succ k => exact g4 i k (fun e => ne (by rw [e])) a ha hb
end

/-! ### arguments lent, and taken back -/
def slotAt (as : List Arg) (i : Nat) : Option Nat := match as[i]? with
  | some (.sl j) => some j
  | _ => none
def argD (ρ : Env) : Arg → Option D
  | .sl j => (ρ[j]?).getD none
  | .vl d => some d
def argsD (ρ : Env) : List Arg → Option (List D)
  | [] => some []
  | a :: as => match argD ρ a, argsD ρ as with
    | some d, some ds => some (d :: ds)
    | _, _ => none
/-- J: the places lent; the others are told by what never changes -/
def okA (J : List Nat) (as : List Arg) (ds : List D) : Prop := (∀ i ∈ J, ∀ k ∈ J, i ≠ k → slotAt as i = slotAt as k → slotAt as i = none) ∧ ∀ i ∈ List.range ds.length, i ∉ J → immD (ds.getD i .non) = true
instance (J : List Nat) (as : List Arg) (ds : List D) : Decidable (okA J as ds) := inferInstanceAs (Decidable (_ ∧ _))
/-- the place at which slot j was lent -/
def lentAt (J : List Nat) (as : List Arg) (j : Nat) : Option Nat := J.find? fun i => decide (slotAt as i = some j)
def backL (J : List Nat) (as : List Arg) (es : Env) : Nat → Env → Env
  | _, [] => []
  | k, o :: ρ => (match lentAt J as k with | some i => (es[i]?).getD none | none => o) :: backL J as es (k + 1) ρ
theorem backL_length (J : List Nat) (as : List Arg) (es : Env) : ∀ (k : Nat) (ρ : Env), (backL J as es k ρ).length = ρ.length
  | _, [] => rfl
  | k, o :: ρ => by rw [backL, List.length_cons, List.length_cons, backL_length J as es (k + 1) ρ]
theorem backL_get (J : List Nat) (as : List Arg) (es : Env) : ∀ (k : Nat) (ρ : Env) (i : Nat), (backL J as es k ρ)[i]? = (ρ[i]?).map fun o => match lentAt J as (k + i) with | some i => (es[i]?).getD none | none => o
  | _, [], _ => by simp [backL]
  | k, o :: ρ, 0 => by simp [backL]
  | k, o :: ρ, i + 1 => by
    rw [backL, List.getElem?_cons_succ, List.getElem?_cons_succ, backL_get J as es (k + 1) ρ i]
    rw [show k + 1 + i = k + (i + 1) by omega]
theorem argsD_get {ρ : Env} : ∀ {as : List Arg} {ds : List D}, argsD ρ as = some ds → as.length = ds.length ∧ ∀ (i : Nat) (a : Arg), as[i]? = some a → ∃ d, ds[i]? = some d ∧ argD ρ a = some d
  | [], ds, h => by cases h; exact ⟨rfl, fun i a h => by simp at h⟩
  | a :: as, ds, h => by
    rw [argsD] at h
    cases h1 : argD ρ a with
    | none => rw [h1] at h; cases h
    | some d =>
      cases h2 : argsD ρ as with
      | none => rw [h1, h2] at h; cases h
      | some es =>
        rw [h1, h2] at h
        cases h
        obtain ⟨g1, g2⟩ := argsD_get h2
        refine ⟨by rw [List.length_cons, List.length_cons, g1], fun i b q => ?_⟩
        cases i with
        | zero => simp at q; subst q; exact ⟨d, rfl, h1⟩
        | succ i => simpa using g2 i b (by simpa using q)
theorem slotAt_some {as : List Arg} {i j : Nat} (h : slotAt as i = some j) : as[i]? = some (.sl j) := by
  unfold slotAt at h
  split at h
  · rename_i e; cases h; exact e
  · cases h
theorem lentAt_some {J : List Nat} {as : List Arg} {i j : Nat} (h : lentAt J as j = some i) : i ∈ J ∧ slotAt as i = some j := by
  unfold lentAt at h
  exact ⟨List.mem_of_find?_eq_some h, by simpa using List.find?_some h⟩
theorem lentAt_none {J : List Nat} {as : List Arg} {j : Nat} (h : lentAt J as j = none) : ∀ i ∈ J, slotAt as i ≠ some j := fun i hi z => by
  unfold lentAt at h
  have := List.find?_eq_none.mp h i hi
  simp [z] at this
section
variable {K : PySem.W.Frag} {own J : List Nat} {σ : L2.St} {S H H2 : Hp} {F : Nat → List Addr} {ρ : Env} {vs : List V} {as : List Arg} {A : List Addr} {ds : List D}
theorem Rd.imm {v : V} {d : D} {S : Hp} (r : Rd K H v d) (m : immD d = true) (t : ∀ b o, Stt o → H b = some o → S b = some o) : Rd K S v d := ((r.fu m).at (fun a ha => nomatch ha) t).rd
/-- what stays while the slots are lent -/
noncomputable def lentS (own J : List Nat) (as : List Arg) (F : Nat → List Addr) (S H : Hp) : Hp := ext S H ((own.filter fun j => (lentAt J as j).isNone).flatMap F)
theorem lend_to (st : Stx own K S F ρ σ H) (ao : AOk K own σ H vs as A) (hA : ∀ a ∈ A, S a = none) (hF : ∀ j ∈ own, ∀ a ∈ A, a ∉ F j) (hd : argsD ρ as = some ds) (ok : okA J as ds) :
    ∃ Fc, Stx J K (lentS own J as F S H) Fc (ds.map some) (vs.map some) H := by
  obtain ⟨G, g1, g2, g3, g4⟩ := aok_split ao
  obtain ⟨hl, hg⟩ := argsD_get hd
  have hT : ∀ b o, Stt o → H b = some o → lentS own J as F S H b = some o := fun b o t z => ext_stt st.sub z t
  have offF : ∀ i ∈ J, ∀ j, slotAt as i = some j → ∀ a ∈ F j, lentS own J as F S H a = none := fun i hi j hs a ha => by
    have hj := (g2 i j (slotAt_some hs)).1
    obtain ⟨h1, o, h2, h3⟩ := st.out j hj a ha
    refine ext_none h1 (fun z => ?_) fun o' e => by rw [h2] at e; cases e; exact h3
    obtain ⟨k, hk, hz⟩ := List.mem_flatMap.mp z
    obtain ⟨k1, k2⟩ := List.mem_filter.mp hk
    by_cases e : j = k
    · subst e
      have : lentAt J as j = none := by simpa using k2
      exact lentAt_none this i hi hs
    · exact st.dis j hj k k1 e a ha hz
  have offA : ∀ a ∈ A, lentS own J as F S H a = none := fun a ha => by
    obtain ⟨o, h2, h3⟩ := ao.soft a ha
    refine ext_none (hA a ha) (fun z => ?_) fun o' e => by rw [h2] at e; cases e; exact h3
    obtain ⟨k, hk, hz⟩ := List.mem_flatMap.mp z
    exact hF k (List.mem_filter.mp hk).1 a ha hz
  refine ⟨fun i => match slotAt as i with | some j => F j | none => G i, by rw [List.length_map, List.length_map, ← hl, ao.length], ext_h st.sub _, fun a o e t => ext_stt st.sub e t, fun i d q => ?_, fun i hi a ha => ?_, fun i hi k hk ne a ha hb => ?_⟩
  · rw [List.getElem?_map] at q
    cases ei : ds[i]? with
    | none => rw [ei] at q; cases q
    | some d' =>
      rw [ei] at q
      have q : d' = d := by simpa using q
      subst q
      have hi : i < ds.length := (List.getElem?_eq_some_iff.mp ei).1
      have him : i ∉ J → immD d' = true := fun n => by
        have := ok.2 i (List.mem_range.mpr hi) n
        rw [List.getD_eq_getElem?_getD, ei] at this
        exact this
      cases ea : as[i]? with
      | none => rw [List.getElem?_eq_none_iff] at ea; omega
      | some a =>
        obtain ⟨d2, e2, e3⟩ := hg i a ea
        rw [ei] at e2
        cases e2
        cases a with
        | sl j =>
          obtain ⟨hj, v, h1, h2⟩ := g2 i j ea
          have es : slotAt as i = some j := by unfold slotAt; rw [ea]
          have ej : ρ[j]? = some (some d') := by
            have e3 : (ρ[j]?).getD none = some d' := e3
            cases q : ρ[j]? with
            | none => rw [q] at e3; cases e3
            | some o => rw [q] at e3; exact congrArg some e3
          obtain ⟨v', h3, h4, _⟩ := st.val j d' ej
          rw [h2] at h3
          cases h3
          refine ⟨v, by rw [List.getElem?_map, h1]; rfl, fun _ => ?_, fun n => (h4 hj).rd.imm (him n) hT⟩
          simp only [es]
          exact h4 hj
        | vl d2 =>
          cases e3
          obtain ⟨v, h1, h2⟩ := g1 i d' ea
          have es : slotAt as i = none := by unfold slotAt; rw [ea]
          refine ⟨v, by rw [List.getElem?_map, h1]; rfl, fun _ => ?_, fun n => h2.rd.imm (him n) hT⟩
          simp only [es]
          exact h2
  · try simp only at ha
    split at ha
    · rename_i j es
      obtain ⟨_, o, h2, h3⟩ := st.out j (g2 i j (slotAt_some es)).1 a ha
      exact ⟨offF i hi j es a ha, o, h2, h3⟩
    · exact ⟨offA a (g3 i a ha), ao.soft a (g3 i a ha)⟩
  · try simp only at ha hb
    split at ha
    · rename_i j es
      have hj := (g2 i j (slotAt_some es)).1
      split at hb
      · rename_i k' es'
        have hk' := (g2 k k' (slotAt_some es')).1
        refine st.dis j hj k' hk' (fun e => ?_) a ha hb
        subst e
        have := ok.1 i hi k hk ne (es.trans es'.symm)
        rw [es] at this; cases this
      · exact hF j hj a (g3 k a hb) ha
    · split at hb
      · rename_i k' es'
        exact hF k' (g2 k k' (slotAt_some es')).1 a (g3 i a ha) hb
      · exact g4 i k ne a ha hb
/-- what was lent comes back -/
theorem lend_from (st : Stx own K S F ρ σ H) (ao : AOk K own σ H vs as A) {S2 : Hp} {F2 : Nat → List Addr} {es : Env} (s2 : Same (lentS own J as F S H) S2) (x : Stx J K S2 F2 es (vs.map some) H2) :
    ∃ F3, Stx own K (ext S H2 []) F3 (backL J as es 0 ρ) σ H2 ∧ ∀ j ∈ own, ∀ a, a ∈ F3 j → (∃ i ∈ J, a ∈ F2 i) ∨ ∃ o, S2 a = some o := by
  obtain ⟨G, _, g2, _, _⟩ := aok_split ao
  have sS : Same S S2 := (ext_s _).trans s2
  have sH : Same S H2 := sS.trans x.sub
  have kept : ∀ j ∈ own, lentAt J as j = none → ∀ a ∈ F j, ∃ o, H a = some o ∧ S2 a = some o ∧ H2 a = some o ∧ ¬ Stt o := fun j hj hn a ha => by
    obtain ⟨_, o, h2, h3⟩ := st.out j hj a ha
    have : lentS own J as F S H a = some o := ext_at st.sub h2 (List.mem_flatMap.mpr ⟨j, List.mem_filter.mpr ⟨hj, by rw [hn]; rfl⟩, ha⟩)
    exact ⟨o, h2, s2 a o this, x.sub a o (s2 a o this), h3⟩
  have hT : ∀ b o, Stt o → H b = some o → H2 b = some o := fun b o t z => x.sub b _ (s2 b _ (ext_stt st.sub z t))
  have mem3 : ∀ j ∈ own, ∀ a, a ∈ (match lentAt J as j with | some i => F2 i | none => F j) → (∃ i ∈ J, a ∈ F2 i) ∨ ∃ o, S2 a = some o := fun j hj a ha => by
    split at ha
    · rename_i i e
      exact .inl ⟨i, (lentAt_some e).1, ha⟩
    · rename_i e
      obtain ⟨o, _, h, _⟩ := kept j hj e a ha
      exact .inr ⟨o, h⟩
  refine ⟨fun j => match lentAt J as j with | some i => F2 i | none => F j, ⟨by rw [backL_length]; exact st.len, ext_h sH _, fun a o e t => ext_stt sH e t, fun j e q => ?_, fun j hj a ha => ?_, fun j hj k hk ne a ha hb => ?_⟩, mem3⟩
  · rw [backL_get, Nat.zero_add] at q
    cases ej : ρ[j]? with
    | none => rw [ej] at q; cases q
    | some o =>
      rw [ej] at q
      have q : (match lentAt J as j with | some i => (es[i]?).getD none | none => o) = some e := by simpa using q
      cases hn : lentAt J as j with
      | none =>
        rw [hn] at q
        simp only at q
        subst q
        obtain ⟨v, h1, h2, h3⟩ := st.val j e ej
        refine ⟨v, h1, fun m => ?_, fun m => (h3 m).mono (ext_s _)⟩
        simp only
        refine (h2 m).at (fun a ha => ?_) hT
        obtain ⟨o, k1, _, k2, _⟩ := kept j m hn a ha
        rw [k1, k2]
      | some i =>
        rw [hn] at q
        simp only at q
        have ei : es[i]? = some (some e) := by
          cases z : es[i]? with
          | none => rw [z] at q; cases q
          | some o' => rw [z] at q; exact congrArg some q
        obtain ⟨hiJ, hs⟩ := lentAt_some hn
        obtain ⟨hj, v, h1, h2⟩ := g2 i j (slotAt_some hs)
        obtain ⟨v', k1, k2, _⟩ := x.val i e ei
        rw [List.getElem?_map, h1] at k1
        have k1 : v = v' := by simpa using k1
        subst k1
        refine ⟨v, h2, fun m => ?_, fun m => absurd hj m⟩
        simp only
        exact k2 hiJ
  · try simp only at ha
    split at ha
    · rename_i i e
      obtain ⟨h1, o, h2, h3⟩ := x.out i (lentAt_some e).1 a ha
      exact ⟨ext_none (sS.free h1) (fun z => nomatch z) (fun o' e' => by rw [h2] at e'; cases e'; exact h3), o, h2, h3⟩
    · rename_i e
      obtain ⟨o, _, _, k2, k3⟩ := kept j hj e a ha
      exact ⟨ext_none (st.out j hj a ha).1 (fun z => nomatch z) (fun o' e' => by rw [k2] at e'; cases e'; exact k3), o, k2, k3⟩
  · try simp only at ha hb
    split at ha
    · rename_i i e
      obtain ⟨i1, i2⟩ := lentAt_some e
      split at hb
      · rename_i i' e'
        obtain ⟨i1', i2'⟩ := lentAt_some e'
        refine x.dis i i1 i' i1' (fun z => ?_) a ha hb
        subst z
        rw [i2] at i2'
        exact ne (Option.some.inj i2')
      · rename_i e'
        obtain ⟨o, _, k1, _⟩ := kept k hk e' a hb
        rw [(x.out i i1 a ha).1] at k1; cases k1
    · rename_i e
      split at hb
      · rename_i i' e'
        obtain ⟨o, _, k1, _⟩ := kept j hj e a ha
        rw [(x.out i' (lentAt_some e').1 a hb).1] at k1; cases k1
      · exact st.dis j hj k hk ne a ha hb
theorem lend_sta (st : Stx own K S F ρ σ H) (ao : AOk K own σ H vs as A) {es : Env} (x : Sta J (lentS own J as F S H) K es (vs.map some) H2) : Sta own S K (backL J as es 0 ρ) σ H2 := by
  obtain ⟨S2, F2, s2, x⟩ := x
  obtain ⟨F3, y, _⟩ := lend_from st ao s2 x
  exact ⟨_, F3, ext_s _, y⟩
theorem lend_staV (st : Stx own K S F ρ σ H) (ao : AOk K own σ H vs as A) {es : Env} {v : V} {d : D} (x : StaV J (lentS own J as F S H) K es (vs.map some) H2 v d) : StaV own S K (backL J as es 0 ρ) σ H2 v d := by
  obtain ⟨S2, F2, A2, s2, x, f, n1, n2⟩ := x
  obtain ⟨F3, y, m⟩ := lend_from st ao s2 x
  refine ⟨_, F3, A2, ext_s _, y, f, fun a ha => ?_, fun j hj a ha z => ?_⟩
  · obtain ⟨o, h1, h2⟩ := f.soft a ha
    exact ext_none (((ext_s _).trans s2).free (n1 a ha)) (fun z => nomatch z) (fun o' e => by rw [h1] at e; cases e; exact h2)
  · rcases m j hj a z with ⟨i, hi, h⟩ | ⟨o, h⟩
    · exact n2 i hi a ha h
    · rw [n1 a ha] at h; cases h
end

/-! ### readings that may change slots -/
def tX (K : PySem.W.Frag) (mg : Str → Option Value) (W : WX) (own : List Nat) (f : Env → RX D) : TE := fun σ H Q => ∃ B ρ, Sta own B K ρ σ H ∧ OutX K mg W own B σ (f ρ) fun d ρ' => ∀ v H', StaV own B K ρ' σ H' v d → Q v H'
def tXT (K : PySem.W.Frag) (mg : Str → Option Value) (W : WX) (own : List Nat) (f : Env → RX Bool) : TT := fun σ H Q => ∃ B ρ, Sta own B K ρ σ H ∧ OutX K mg W own B σ (f ρ) fun b ρ' => ∀ H', Sta own B K ρ' σ H' → Q b H'
def tXA (K : PySem.W.Frag) (mg : Str → Option Value) (W : WX) (own : List Nat) (f : Env → RX (List Arg)) : TA := fun σ H Q => ∃ B ρ, Sta own B K ρ σ H ∧ OutX K mg W own B σ (f ρ) fun as ρ' => ∀ vs H', StaA own B K ρ' σ H' vs as → Q vs H'
/-- arguments without effects -/
def tPA (K : PySem.W.Frag) (mg : Str → Option Value) (W : WX) (own : List Nat) (f : Env → R (List Arg)) : TA := fun σ H Q => ∃ ρ, REnv K ρ σ H ∧ Out mg W σ H (f ρ) fun as => ∀ vs H' A, Same H H' → AOk K own σ H' vs as A → (∀ a ∈ A, H a = none) → Q vs H'
structure VX (X : Cx) (W : WX) (own : List Nat) (e : Expr) (f : Env → RX D) : Prop where
  pe : PE X e (tX X.K X.mg W own f)
structure VXT (X : Cx) (W : WX) (own : List Nat) (e : Expr) (f : Env → RX Bool) : Prop where
  pt : PT X e (tXT X.K X.mg W own f)
structure VXW (X : Cx) (W : WX) (own : List Nat) (e : Expr) (f : Env → RX Bool) : Prop where
  pw : PW X e (tXT X.K X.mg W own f)
structure VXA (X : Cx) (W : WX) (own : List Nat) (es : List Expr) (f : Env → RX (List Arg)) : Prop where
  pa : PA X es (tXA X.K X.mg W own f)
structure VPA (X : Cx) (W : WX) (own : List Nat) (es : List Expr) (f : Env → R (List Arg)) : Prop where
  pa : PA X es (tPA X.K X.mg W own f)
def nilP (_ : Env) : R (List Arg) := .ok []
def slP (j : Nat) (fs : Env → R (List Arg)) (ρ : Env) : R (List Arg) := (varE j ρ).bind fun _ => (fs ρ).bind fun as => .ok (.sl j :: as)
def vlP (f : Env → R D) (fs : Env → R (List Arg)) (ρ : Env) : R (List Arg) := (f ρ).bind fun d => (fs ρ).bind fun as => .ok (.vl d :: as)
def nilXA (ρ : Env) : RX (List Arg) := .ok [] ρ
def slXA (j : Nat) (fs : Env → RX (List Arg)) (ρ : Env) : RX (List Arg) := (liftX (varE j) ρ).bind fun _ ρ => (fs ρ).bind fun as ρ' => .ok (.sl j :: as) ρ'
def immX (d : D) (ρ : Env) : RX D := if immD d = true then .ok d ρ else .st
def vlXA (f : Env → RX D) (fs : Env → RX (List Arg)) (ρ : Env) : RX (List Arg) := ((f ρ).bind immX).bind fun d ρ => (fs ρ).bind fun as ρ' => .ok (.vl d :: as) ρ'
section
variable {X : Cx} {W : WX} {own : List Nat} {e a b : Expr} {es : List Expr} {f : Env → RX D} {g : Env → R D} {fs : Env → RX (List Arg)} {gs : Env → R (List Arg)} {x : Str} {p pos : Pos}
theorem varE_get {j : Nat} {ρ : Env} {P : D → Prop} {mg : Str → Option Value} {σ : L2.St} {H : Hp} (o : Out mg W σ H (varE j ρ) P) : ∃ d, ρ[j]? = some (some d) ∧ varE j ρ = .ok d ∧ P d := by
  unfold varE at o ⊢
  split at o
  · rename_i d e
    exact ⟨d, e, rfl, o⟩
  · exact o.elim
theorem vpa_nil : VPA X W own [] nilP := ⟨paW pa_nil fun σ H Q ⟨ρ, re, o⟩ => o [] H [] (Same.refl H) .nil (fun _ z => nomatch z)⟩
theorem vpa_sl (j : Nat) (pv : PE X (.Name x p) (tVar j)) (hr : VPA X W own es gs) (hj : j ∈ own := by decide) (hs : starEach (.Name x p :: es) X.env = (false, eval (.Name x p) X.env) :: starEach es X.env := by rfl) : VPA X W own (.Name x p :: es) (slP j gs) :=
  ⟨paW (pa_cons pv hr.pa hs) fun σ H Q ⟨ρ, re, o⟩ => by
    obtain ⟨d, hd, hv, o⟩ := varE_get (Out.bind o)
    obtain ⟨v, h1, h2⟩ := re.val j d hd
    exact ⟨v, h1, ρ, re, (Out.bind o).mono fun as _ q vs H' A s ao n => q (v :: vs) H' A s (.sl hj h1 ao) n⟩⟩
theorem vpa_vl (he : VG X W e g) (hr : VPA X W own es gs) (hs : starEach (e :: es) X.env = (false, eval e X.env) :: starEach es X.env := by rfl) : VPA X W own (e :: es) (vlP g gs) :=
  ⟨paW (pa_cons he.pe hr.pa hs) fun σ H Q ⟨ρ, re, o⟩ => ⟨ρ, re, (Out.bind o).mono fun d _ q v H1 A s1 f1 n1 => ⟨ρ, re.mono s1, ((Out.bind q).up s1).mono fun as _ q vs H2 A2 s2 ao n2 => q (v :: vs) H2 (A ++ A2) (s1.trans s2)
    (.vl (f1.same s2) ao fun x hx hb => by obtain ⟨o, ho⟩ := f1.there x hx; rw [n2 x hb] at ho; cases ho) fun x hx => (List.mem_append.mp hx).elim (fun z => n1 x z) fun z => s1.free (n2 x z)⟩⟩⟩
theorem VPA.vxa (h : VPA X W own es gs) : VXA X W own es (liftX gs) := ⟨paW h.pa fun σ H Q ⟨B, ρ, st, o⟩ => ⟨ρ, st.env, (OutX.lift st o).mono fun as _ q vs H' A s ao n => by
  obtain ⟨S, F, b, y⟩ := st
  refine q vs H' ⟨_, F, A, b.trans (ext_s []), y.grow s (A := []) (fun _ z => nomatch z), ao, fun a ha => ?_, fun j m a ha z => ?_⟩
  · obtain ⟨o, h1, h2⟩ := ao.soft a ha
    exact ext_none (y.sub.free (n a ha)) (fun z => nomatch z) (fun o' e => by rw [h1] at e; cases e; exact h2)
  · obtain ⟨_, o, e, _⟩ := y.out j m a z
    rw [n a ha] at e; cases e⟩⟩
theorem VG.vx (h : VG X W e g) : VX X W own e (liftX g) := ⟨peW h.pe fun σ H Q ⟨B, ρ, st, o⟩ => ⟨ρ, st.env, (OutX.lift st o).mono fun d _ q v H' A s f n => q v H' (st.staV s f n)⟩⟩
theorem VT.vxt {t : Env → R Bool} (h : VT X W e t) : VXT X W own e (liftX t) := ⟨ptW h.pt fun σ H Q ⟨B, ρ, st, o⟩ => ⟨ρ, st.env, (OutX.lift st o).mono fun d _ q H' s => q H' (st.grow s)⟩⟩
theorem vxa_nil : VXA X W own [] nilXA := ⟨paW pa_nil fun σ H Q ⟨B, ρ, ⟨S, F, b, y⟩, o⟩ => o [] H ⟨S, F, [], b, y, .nil, (fun _ z => nomatch z), fun _ _ _ z => nomatch z⟩⟩
theorem vxa_sl (j : Nat) (pv : PE X (.Name x p) (tVar j)) (hr : VXA X W own es fs) (hj : j ∈ own := by decide) (hs : starEach (.Name x p :: es) X.env = (false, eval (.Name x p) X.env) :: starEach es X.env := by rfl) : VXA X W own (.Name x p :: es) (slXA j fs) :=
  ⟨paW (pa_cons pv hr.pa hs) fun σ H Q ⟨B, ρ, st, o⟩ => by
    obtain ⟨d, hd, hv, o⟩ := varE_get (OutX.lift st (OutX.bind o))
    obtain ⟨v, h1, h2⟩ := st.env.val j d hd
    exact ⟨v, h1, B, ρ, st, (OutX.bind o).mono fun as ρ' _ q vs H' ⟨S, F, A, b, y, ao, n1, n2⟩ => q (v :: vs) H' ⟨S, F, A, b, y, .sl hj h1 ao, n1, n2⟩⟩⟩
/-- an argument that never changes; what stands behind it may change slots -/
theorem vxa_vl (he : VX X W own e f) (hr : VXA X W own es fs) (hs : starEach (e :: es) X.env = (false, eval e X.env) :: starEach es X.env := by rfl) : VXA X W own (e :: es) (vlXA f fs) :=
  ⟨paW (pa_cons he.pe hr.pa hs) fun σ H Q ⟨B, ρ, st, o⟩ => ⟨B, ρ, st, (OutX.bind (OutX.bind o)).mono fun d ρ1 _ q v H1 ⟨S1, F1, A1, b1, y1, f1, n1, n2⟩ => by
    unfold immX at q
    by_cases m : immD d = true
    rotate_left
    · rw [if_neg m] at q; exact q.elim
    rw [if_pos m] at q
    have q := OutX.bind (show OutX X.K X.mg W own B σ ((fs ρ1).bind fun as ρ' => .ok (.vl d :: as) ρ') _ from q)
    refine ⟨S1, ρ1, ⟨S1, F1, Same.refl _, y1⟩, (q.up b1).mono fun as ρ' _ q vs H2 ⟨S2, F2, A2, b2, y2, ao, n3, n4⟩ => ?_⟩
    have fd : Fu X.K H2 v d [] := (f1.rd.fu m).at (fun a ha => nomatch ha) fun b o t z => y2.sub b _ (b2 b _ (y1.cl b _ z t))
    exact q (v :: vs) H2 ⟨S2, F2, A2, b1.trans b2, y2, .vl fd ao (fun _ z => nomatch z), n3, n4⟩⟩⟩
end

/-! ### defs that are lent their arguments -/
def cutE (J : List Nat) (n : Nat) (ρ : Env) : Env := (List.range n).map fun i => if i ∈ J then (ρ[i]?).getD none else none
def bodyB (J : List Nat) (n : Nat) : Sr → RX D
  | .nx ρ => .ok .non (cutE J n ρ)
  | .rb d ρ => .ok d (cutE J n ρ)
  | .ex c ρ => .ex c (cutE J n ρ)
  | _ => .st
def runL (N n : Nat) (J : List Nat) (b : Env → Sr) (ds : List D) : RX D := bodyB J n (b (ds.map some ++ List.replicate (N - ds.length) none))
def spB (K : PySem.W.Frag) (mg : Str → Option Value) (n : Nat) (J : List Nat) (m : List D → RX D) : Sp := fun vs H Q E => vs.length = n ∧ ∃ S F ds, Stx J K S F (ds.map some) (vs.map some) H ∧ match m ds with
  | .ok d es => ∀ v H', StaV J S K es (vs.map some) H' v d → Q v H'
  | .ex c es => ∃ C, mg c = some (.ref C) ∧ ∀ H', Sta J S K es (vs.map some) H' → E (.ref C) none H'
  | .st => False
section
variable {K : PySem.W.Frag} {J own : List Nat} {B S H : Hp} {F : Nat → List Addr} {ρ : Env} {σ : L2.St} {vs : List V} {P : Nat → Option V}
theorem cutE_get {n i : Nat} {d : D} (h : (cutE J n ρ)[i]? = some (some d)) : i < n ∧ i ∈ J ∧ ρ[i]? = some (some d) := by
  unfold cutE at h
  rw [List.getElem?_map] at h
  cases e : (List.range n)[i]? with
  | none => rw [e] at h; cases h
  | some k =>
    obtain ⟨h1, h2⟩ := List.getElem?_eq_some_iff.mp e
    rw [List.getElem_range] at h2
    subst h2
    rw [e] at h
    have h : (if i ∈ J then (ρ[i]?).getD none else none) = some d := by simpa using h
    split at h
    · rename_i m
      refine ⟨by simpa using h1, m, ?_⟩
      cases z : ρ[i]? with
      | none => rw [z] at h; cases h
      | some o => rw [z] at h; exact congrArg some h
    · cases h
theorem Stx.cut (x : Stx J K S F ρ σ H) (pn : Pin P σ) (hP : ∀ i ∈ J, P i = vs[i]?) : Stx J K S F (cutE J vs.length ρ) (vs.map some) H := by
  refine ⟨by simp [cutE], x.sub, x.cl, fun i d q => ?_, x.out, x.dis⟩
  obtain ⟨h1, h2, h3⟩ := cutE_get q
  obtain ⟨v, g1, g2, _⟩ := x.val i d h3
  have e : vs[i]? = some vs[i] := List.getElem?_eq_getElem h1
  have g3 := pn i vs[i] ((hP i h2).trans e)
  rw [g1] at g3
  cases g3
  exact ⟨_, by rw [List.getElem?_map, e]; rfl, fun m => g2 m, fun n => absurd h2 n⟩
theorem Sta.cut (x : Sta J B K ρ σ H) (pn : Pin P σ) (hP : ∀ i ∈ J, P i = vs[i]?) : Sta J B K (cutE J vs.length ρ) (vs.map some) H := let ⟨S, F, b, y⟩ := x; ⟨S, F, b, y.cut pn hP⟩
theorem StaV.cut {v : V} {d : D} (x : StaV J B K ρ σ H v d) (pn : Pin P σ) (hP : ∀ i ∈ J, P i = vs[i]?) : StaV J B K (cutE J vs.length ρ) (vs.map some) H v d := let ⟨S, F, A, b, y, z⟩ := x; ⟨S, F, A, b, y.cut pn hP, z⟩
theorem Stx.long (x : Stx J K S F ρ σ H) (n : Nat) : Stx J K S F (ρ ++ List.replicate n none) (σ ++ List.replicate n none) H := by
  refine ⟨by rw [List.length_append, List.length_append, x.len, List.length_replicate, List.length_replicate], x.sub, x.cl, fun i d q => ?_, x.out, x.dis⟩
  rw [List.getElem?_append] at q
  split at q
  · rename_i hi
    obtain ⟨v, g1, g2⟩ := x.val i d q
    exact ⟨v, by rw [List.getElem?_append_left (by rw [← x.len]; exact hi)]; exact g1, g2⟩
  · rw [List.getElem?_replicate] at q
    split at q <;> cases q
end
/-- what is kept of the arguments lent -/
def pinV (J : List Nat) (vs : List V) (i : Nat) : Option V := if i ∈ J then vs[i]? else none
abbrev olB (J : List Nat) (vs : List V) : Ol := { l := [], r := J, e := J, P := pinV J vs }
section
variable {P : Program} {w : World} {K : PySem.W.Frag} {mg : Str → Option Value} {base : Heap}
theorem fnB_ok {x qual : Str} {st : Stmt} {f : Addr} {fd : FuncData} {N ps : List Str} {k : Nat} {J own' : List Nat} {b : Env → Sr} (F : Fun K x qual st f fd) (S : FnScope N ps (defScope st)) (w' : ∀ i ∈ J, i ∈ own')
    (hbody : ∀ (vs : List V) (cdv : Value) (A : Around) (outer : List PySem.Env) (s : Shared) (H : Hp) (E : XK), Room k (A.deeper (envOfC qual (defScope st) s.heap.objs.size f cdv)) →
      VSs (cxOf (L2.CX P w) P w K mg base N qual (defScope st) f cdv A outer s H E) (fun cls d _ H => E cls d H) J own' (olB J vs) (defBody st) b) :
    FnOk P w K mg base (L2.CX P w) (k + 1) f fd ps (spB K mg ps.length J (runL N.length ps.length J b)) := by
  refine F.okX S (fun vs H Q E h => h.1) (fun cdv A outer s H vs Q E hr h => ?_)
  obtain ⟨hl, S0, F0, ds, y, h⟩ := h
  have hdl : ds.length = vs.length := by have := y.len; simpa using this
  have hP : ∀ i ∈ J, pinV J vs i = vs[i]? := fun i m => by unfold pinV; rw [if_pos m]
  have pn0 : Pin (pinV J vs) (L2.start N vs) := fun i v e => by
    unfold pinV at e
    split at e
    · unfold L2.start
      rw [List.getElem?_append_left (by rw [List.length_map]; exact (List.getElem?_eq_some_iff.mp e).1), List.getElem?_map, e]
      rfl
    · cases e
  refine ⟨_, (hbody vs cdv A outer s H E hr).ps, S0, ds.map some ++ List.replicate (N.length - ds.length) none, ⟨S0, F0, Same.refl _, by unfold L2.start; rw [hdl]; exact y.long _⟩, pn0, ?_⟩
  unfold runL at h
  rw [← hl] at h
  generalize b (ds.map some ++ List.replicate (N.length - ds.length) none) = q at h
  cases q with
  | st => exact h.elim
  | nx ρ => exact fun σ H' y pn => h .non H' (((y.weak w').cut pn hP).staV (Same.refl _) .non (fun _ z => nomatch z))
  | rt d => exact h.elim
  | rb d ρ => exact fun v σ H' y pn => h v H' (y.cut pn hP)
  | bk ρ => exact h.elim
  | ct ρ => exact h.elim
  | ex c ρ =>
    obtain ⟨C, h1, h2⟩ := h
    exact ⟨C, h1, fun σ H' y pn => h2 H' (y.cut pn hP)⟩
end
/-- a def that is lent the arguments J -/
def CalB (P : Program) (w : World) (K : PySem.W.Frag) (mg : Str → Option Value) (base : Heap) (x : Str) (ps : List Str) (J : List Nat) (k : Nat) (m : List D → RX D) : Prop :=
  ∃ f fd, mg x = some (.ref f) ∧ PySem.W.keepIn K (.ref f) = true ∧ Binds K fd ps [] ∧ FnOk P w K mg base (L2.CX P w) k f fd ps (spB K mg ps.length J m)
/-- a method of the class c that is lent the arguments J -/
def CalBM (P : Program) (w : World) (K : PySem.W.Frag) (mg : Str → Option Value) (base : Heap) (c x : Str) (ps : List Str) (J : List Nat) (k : Nat) (m : List D → RX D) : Prop :=
  ∃ C f fd, PySem.W.nsIn K mainGlobals c = some (some (.ref C)) ∧ Cls K C ∧ Meth K C x f ∧ Binds K fd ps [] ∧ FnOk P w K mg base (L2.CX P w) k f fd ps (spB K mg ps.length J m)
/-- a method of the class c that changes nothing -/
def CalM (P : Program) (w : World) (K : PySem.W.Frag) (mg : Str → Option Value) (base : Heap) (c x : Str) (ps : List Str) (k : Nat) (m : List D → R D) : Prop :=
  ∃ C f fd, PySem.W.nsIn K mainGlobals c = some (some (.ref C)) ∧ Cls K C ∧ Meth K C x f ∧ Binds K fd ps [] ∧ FnOk P w K mg base (L2.CX P w) k f fd ps (spF K mg ps.length m)
/-- a class: how its objects are made -/
def CalMk (P : Program) (w : World) (K : PySem.W.Frag) (mg : Str → Option Value) (base : Heap) (c : Str) (ps : List Str) (k : Nat) (m : List D → RX D) : Prop :=
  ∃ C f fd, PySem.W.nsIn K mainGlobals c = some (some (.ref C)) ∧ mg c = some (.ref C) ∧ Mk K C f ∧ Binds K fd ps [] ∧ FnOk P w K mg base (L2.CX P w) k f fd ps (spB K mg ps.length [0] m)
/-- a method as the top left it -/
def MDef (K : PySem.W.Frag) (mg : Str → Option Value) (c x qual : Str) (st : Stmt) : Prop := ∃ C f fd, PySem.W.nsIn K mainGlobals c = some (some (.ref C)) ∧ mg c = some (.ref C) ∧ Cls K C ∧ Meth K C x f ∧ Fun K x qual st f fd
section
variable {P : Program} {w : World} {K : PySem.W.Frag} {mg : Str → Option Value} {base : Heap} {x c qual : Str} {st : Stmt} {N ps : List Str} {k : Nat} {J own' : List Nat} {b : Env → Sr}
theorem calB_mk (F : Def K mg x st) (S : FnScope N ps (defScope st)) (w' : ∀ i ∈ J, i ∈ own')
    (hb : ∀ (kV doc pm : Value) (an : Option Addr) (cdv ct : Value) (us : List Value), us.length = ps.length → bindArgs (PySem.W.fnOf x x (defArgs st) (defBody st) (defScope st) .none kV doc pm an cdv ct) ⟨us, []⟩ = pure (ps.zip us))
    (hbody : ∀ (vs : List V) (f : Addr) (cdv : Value) (A : Around) (outer : List PySem.Env) (s : Shared) (H : Hp) (E : XK), Room k (A.deeper (envOfC x (defScope st) s.heap.objs.size f cdv)) →
      VSs (cxOf (L2.CX P w) P w K mg base N x (defScope st) f cdv A outer s H E) (fun cls d _ H => E cls d H) J own' (olB J vs) (defBody st) b) :
    CalB P w K mg base x ps J (k + 1) (runL N.length ps.length J b) := by
  obtain ⟨f, fd, F, h⟩ := F
  exact ⟨f, fd, h, F.kp, F.binds hb, fnB_ok F S w' (fun vs cdv A outer s H E hr => hbody vs f cdv A outer s H E hr)⟩
theorem calBM_mk (F : MDef K mg c x qual st) (S : FnScope N ps (defScope st)) (w' : ∀ i ∈ J, i ∈ own')
    (hb : ∀ (kV doc pm : Value) (an : Option Addr) (cdv ct : Value) (us : List Value), us.length = ps.length → bindArgs (PySem.W.fnOf x qual (defArgs st) (defBody st) (defScope st) .none kV doc pm an cdv ct) ⟨us, []⟩ = pure (ps.zip us))
    (hbody : ∀ (vs : List V) (f : Addr) (cdv : Value) (A : Around) (outer : List PySem.Env) (s : Shared) (H : Hp) (E : XK), Room k (A.deeper (envOfC qual (defScope st) s.heap.objs.size f cdv)) →
      VSs (cxOf (L2.CX P w) P w K mg base N qual (defScope st) f cdv A outer s H E) (fun cls d _ H => E cls d H) J own' (olB J vs) (defBody st) b) :
    CalBM P w K mg base c x ps J (k + 1) (runL N.length ps.length J b) := by
  obtain ⟨C, f, fd, h1, _, h2, h3, F⟩ := F
  exact ⟨C, f, fd, h1, h2, h3, F.binds hb, fnB_ok F S w' (fun vs cdv A outer s H E hr => hbody vs f cdv A outer s H E hr)⟩
theorem calMk_mk (F : MDef K mg c "__init__" qual st) (M : ∀ C f, PySem.W.nsIn K mainGlobals c = some (some (.ref C)) → Meth K C "__init__" f → Mk K C f) (S : FnScope N ps (defScope st)) (w' : ∀ i ∈ [0], i ∈ own')
    (hb : ∀ (kV doc pm : Value) (an : Option Addr) (cdv ct : Value) (us : List Value), us.length = ps.length → bindArgs (PySem.W.fnOf "__init__" qual (defArgs st) (defBody st) (defScope st) .none kV doc pm an cdv ct) ⟨us, []⟩ = pure (ps.zip us))
    (hbody : ∀ (vs : List V) (f : Addr) (cdv : Value) (A : Around) (outer : List PySem.Env) (s : Shared) (H : Hp) (E : XK), Room k (A.deeper (envOfC qual (defScope st) s.heap.objs.size f cdv)) →
      VSs (cxOf (L2.CX P w) P w K mg base N qual (defScope st) f cdv A outer s H E) (fun cls d _ H => E cls d H) [0] own' (olB [0] vs) (defBody st) b) :
    CalMk P w K mg base c ps (k + 1) (runL N.length ps.length [0] b) := by
  obtain ⟨C, f, fd, h1, h0, h2, h3, F⟩ := F
  exact ⟨C, f, fd, h1, h0, M C f h1 h3, F.binds hb, fnB_ok F S w' (fun vs cdv A outer s H E hr => hbody vs f cdv A outer s H E hr)⟩
theorem calM_mk (F : MDef K mg c x qual st) (S : FnScope N ps (defScope st)) (hps : ps.length ≤ N.length)
    (hb : ∀ (kV doc pm : Value) (an : Option Addr) (cdv ct : Value) (us : List Value), us.length = ps.length → bindArgs (PySem.W.fnOf x qual (defArgs st) (defBody st) (defScope st) .none kV doc pm an cdv ct) ⟨us, []⟩ = pure (ps.zip us))
    (hbody : ∀ (f : Addr) (cdv : Value) (A : Around) (outer : List PySem.Env) (s : Shared) (H : Hp) (E : XK), Room k (A.deeper (envOfC qual (defScope st) s.heap.objs.size f cdv)) →
      VSs (cxOf (L2.CX P w) P w K mg base N qual (defScope st) f cdv A outer s H E) (fun cls d _ H => E cls d H) [] own' nol (defBody st) b) :
    CalM P w K mg base c x ps (k + 1) (runB N.length b) := by
  obtain ⟨C, f, fd, h1, _, h2, h3, F⟩ := F
  exact ⟨C, f, fd, h1, h2, h3, F.binds hb, fn_ok F S hps (fun cdv A outer s H E hr => hbody f cdv A outer s H E hr)⟩
end

/-! ### calls that lend -/
def lendX (n : Nat) (J : List Nat) (m : List D → RX D) (fs : Env → RX (List Arg)) (ρ : Env) : RX D := (fs ρ).bind fun as ρ => match argsD ρ as with
  | some ds => if as.length = n ∧ okA J as ds then (match m ds with
    | .ok d es => .ok d (backL J as es 0 ρ)
    | .ex c es => .ex c (backL J as es 0 ρ)
    | .st => .st) else .st
  | none => .st
theorem lend_core {K : PySem.W.Frag} {mg : Str → Option Value} {W : WX} {own J : List Nat} {n : Nat} {m : List D → RX D} {B H : Hp} {σ : L2.St} {ρ : Env} {vs : List V} {as : List Arg} {Q : VK}
    (h : StaA own B K ρ σ H vs as) (o : OutX K mg W own B σ (match argsD ρ as with
      | some ds => if as.length = n ∧ okA J as ds then (match m ds with
        | .ok d es => RX.ok d (backL J as es 0 ρ)
        | .ex c es => .ex c (backL J as es 0 ρ)
        | .st => .st) else .st
      | none => .st) fun d ρ' => ∀ v H', StaV own B K ρ' σ H' v d → Q v H') : spB K mg n J m vs H Q (WE W σ) := by
  obtain ⟨S, F, A, b, y, ao, n1, n2⟩ := h
  cases hd : argsD ρ as with
  | none => rw [hd] at o; exact o.elim
  | some ds =>
    rw [hd] at o
    simp only at o
    by_cases c : as.length = n ∧ okA J as ds
    rotate_left
    · rw [if_neg c] at o; exact o.elim
    rw [if_pos c] at o
    obtain ⟨Fc, st⟩ := lend_to y ao n1 n2 hd c.2
    refine ⟨ao.length.trans c.1, _, Fc, ds, st, ?_⟩
    cases hm : m ds with
    | st => rw [hm] at o; exact o.elim
    | ok d es => rw [hm] at o; exact fun v H' z => o v H' ((lend_staV y ao z).down b)
    | ex c es =>
      rw [hm] at o
      obtain ⟨C, h1, h2⟩ := o
      exact ⟨C, h1, fun H' z => h2 H' ((lend_sta y ao z).down b)⟩
section
variable {X : Cx} {W : WX} {own J : List Nat} {e : Expr} {es : List Expr} {f : Env → RX D} {fs : Env → RX (List Arg)} {x c : Str} {p p1 apos pos : Pos} {ps : List Str} {k k' : Nat} {m : List D → RX D}
theorem vx_callB {n : Nat} (C : CalB X.prog X.w X.K X.mg X.base x ps J k m) (hr : Room k' X.A) (tk : Takes X W) (hg : Gl X x) (ha : VXA X W own (e :: es) fs) (hk : k ≤ k' := by decide) (hn : ps.length = n := by rfl) (hdb : (x == ("__debug__" : Str)) = false := by decide)
    (he : starEach (e :: es) X.env = (false, eval e X.env) :: starEach es X.env := by rfl) (hpl : (backTo pos (starEach es X.env)).any (·.1) = false := by rfl) :
    VX X W own (.Call (.Name x p) (e :: es) [] pos) (lendX n J m fs) := by
  subst hn
  obtain ⟨f, fd, h1, h2, h3, h4⟩ := C
  exact ⟨peW (pe_callS h4 (hr.mono hk) hg h1 h2 h3 (fun σ => passAt tk σ) ha.pa hdb he hpl) fun σ H Q ⟨B, ρ, st, o⟩ => ⟨B, ρ, st, (OutX.bind o).mono fun as ρ' _ q vs H' z => lend_core z q⟩⟩
/-- o.m(e, ..), by a wish at the slots -/
def tMethS' (C : Addr) (m : Str) (sp : Sp) (E : L2.St → XK) (ta : TE) (t : TA) : TE := fun σ H Q => ta σ H fun x H1 => ∃ a dx fs, x = .ref a ∧ H1 a = some (.ins C dx fs) ∧ fs.lookup m = none ∧ t σ H1 fun vs H2 => sp (x :: vs) H2 Q (E σ)
theorem pe_methS' {CX : CXT} {C f : Addr} {m : Str} {fd : FuncData} {sp : Sp} {E : L2.St → XK} {o : Expr} {ta : TE} {t : TA} {pl : Sem Bool} (he : PE X o ta) (c : Cls X.K C) (hm : Meth X.K C m f) (F : FnOk X.prog X.w X.K X.mg X.base CX k f fd ps sp) (hr : Room k X.A) (hb : Binds X.K fd ps []) (hx : ∀ σ, PassesAt CX X σ (E σ)) (ha : PA X (e :: es) t)
    (hst : starEach (e :: es) X.env = (false, eval e X.env) :: starEach es X.env := by rfl) (hpl : (backTo pos (starEach es X.env)).any (·.1) = false := by rfl)
    (ht : eval (.Call (.Attribute o m apos) (e :: es) [] pos) X.env = (do
      let ov ← eval o X.env
      standAt apos.atName
      let (f, first) ← holding [ov] (getMethod ov m pl)
      callWith pos f first (backTo pos (starEach (e :: es) X.env)) (backToKw pos (keywordEach [] X.env))) := by rfl) :
    PE X (.Call (.Attribute o m apos) (e :: es) [] pos) (tMethS' C m sp E ta t) := by
  refine ⟨fun pins s σ H Q I h => ?_⟩
  refine PySem.W.methodCall_KW (pl := pl) (thn (he.run pins s σ H _ I h) fun u s1 ⟨x, H1, I1, rx, a, dx, fs, ex, ea, l, q⟩ => ?_) ht
  subst ex
  obtain rfl : u = Value.ref a := rx
  refine getmeth_ok I1 ea c hm l ?_
  refine PySem.W.callWith_K (first := [.ref a]) (h₀ := X.base) I.ok.mod.kin hm.kp (thn (ha.run pos pins s1 σ H1 _ I1 q) fun us s2 ⟨vs, H2, I2, r, q2⟩ => ⟨I2.kIn, ?_⟩) hst hpl
  exact run_fnS (us := .ref a :: us) (vs := .ref a :: vs) F hr hb (hx σ) I2 (.cons rfl r) q2
theorem pe_meth0S' {CX : CXT} {C f : Addr} {m : Str} {fd : FuncData} {sp : Sp} {E : L2.St → XK} {o : Expr} {ta : TE} {pl : Sem Bool} (he : PE X o ta) (c : Cls X.K C) (hm : Meth X.K C m f) (F : FnOk X.prog X.w X.K X.mg X.base CX k f fd ps sp) (hr : Room k X.A) (hb : Binds X.K fd ps []) (hx : ∀ σ, PassesAt CX X σ (E σ))
    (ht : eval (.Call (.Attribute o m apos) [] [] pos) X.env = (do
      let ov ← eval o X.env
      standAt apos.atName
      let (f, first) ← holding [ov] (getMethod ov m pl)
      callWith pos f first (backTo pos (starEach [] X.env)) (backToKw pos (keywordEach [] X.env))) := by rfl) :
    PE X (.Call (.Attribute o m apos) [] [] pos) (tMethS' C m sp E ta tNil) := by
  refine ⟨fun pins s σ H Q I h => ?_⟩
  refine PySem.W.methodCall_KW (pl := pl) (thn (he.run pins s σ H _ I h) fun u s1 ⟨x, H1, I1, rx, a, dx, fs, ex, ea, l, q⟩ => ?_) ht
  subst ex
  obtain rfl : u = Value.ref a := rx
  refine getmeth_ok I1 ea c hm l ?_
  exact PySem.W.callWith_K0 (first := [.ref a]) I1.kIn hm.kp (run_fnS (us := [.ref a]) (vs := [.ref a]) F hr hb (hx σ) I1 (.cons rfl .nil) q)
/-- o.m(..), o a slot's object that is lent -/
def methX (c mn : Str) (n : Nat) (J : List Nat) (m : List D → RX D) (i : Nat) (fs : Env → RX (List Arg)) (ρ : Env) : RX D := match ρ[i]? with
  | some (some (.obj c' ks _)) => if c' = c ∧ mn ∉ ks then lendX n J m (fun ρ => (fs ρ).bind fun as ρ' => .ok (.sl i :: as) ρ') ρ else .st
  | _ => .st
theorem lookup_none {α : Type} {mn : Str} : ∀ {l : List (Str × α)}, mn ∉ l.map (·.1) → l.lookup mn = none
  | [], _ => rfl
  | (k, v) :: l, h => by
    rw [List.lookup_cons]
    have h1 : ¬ mn = k := fun z => h (by simp [z])
    rw [show (mn == k) = false by simpa using h1]
    exact lookup_none fun z => h (by simp at z ⊢; exact .inr z)
theorem meth_core {K : PySem.W.Frag} {mg : Str → Option Value} {W : WX} {own J : List Nat} {B H : Hp} {σ : L2.St} {ρ : Env} {i n : Nat} {C : Addr} {mn : Str} {t : TA} {Q : VK} {m : List D → RX D} {fs : Env → RX (List Arg)} (hi : i ∈ own)
    (hC : PySem.W.nsIn K mainGlobals c = some (some (.ref C))) (st : Sta own B K ρ σ H) (ht : ∀ (R : List V → Hp → Prop), (∃ B ρ, Sta own B K ρ σ H ∧ OutX K mg W own B σ (fs ρ) fun as ρ' => ∀ vs H', StaA own B K ρ' σ H' vs as → R vs H') → t σ H R)
    (o : OutX K mg W own B σ (methX c mn n J m i fs ρ) fun d ρ' => ∀ v H', StaV own B K ρ' σ H' v d → Q v H') : tMethS' C mn (spB K mg n J m) (WE W) (tVar i) t σ H Q := by
  unfold methX at o
  split at o
  · rename_i c' ks ds ei
    by_cases z : c' = c ∧ mn ∉ ks
    rotate_left
    · rw [if_neg z] at o; exact o.elim
    rw [if_pos z] at o
    obtain ⟨rfl, z⟩ := z
    obtain ⟨v, h1, h2⟩ := st.env.val i _ ei
    cases h2 with
    | @obj a C' dx fl _ _ _ g1 g2 g3 g4 g5 =>
      have eC : C' = C := by
        have g3 : PySem.W.nsIn K mainGlobals c' = some (some (.ref C')) := g3
        rw [hC] at g3
        cases g3; rfl
      subst eC
      subst g4
      refine ⟨_, h1, a, dx, fl, rfl, g1, lookup_none z, ht _ ⟨B, ρ, st, ?_⟩⟩
      unfold lendX at o
      refine (OutX.bind (OutX.bind o)).mono fun as ρ' _ q vs H' ⟨S, F, A, b, y, ao, n1, n2⟩ => lend_core ⟨S, F, A, b, y, .sl hi h1 ao, n1, n2⟩ q
  · exact o.elim
theorem vx_meth {mn : Str} {i n : Nat} (C : CalBM X.prog X.w X.K X.mg X.base c mn ps J k m) (hr : Room k' X.A) (tk : Takes X W) (pv : PE X (.Name x p1) (tVar i)) (ha : VXA X W own (e :: es) fs) (hi : i ∈ own := by decide) (hk : k ≤ k' := by decide) (hn : ps.length = n := by rfl)
    (hst : starEach (e :: es) X.env = (false, eval e X.env) :: starEach es X.env := by rfl) (hpl : (backTo pos (starEach es X.env)).any (·.1) = false := by rfl) {pl : Sem Bool}
    (ht : eval (.Call (.Attribute (.Name x p1) mn apos) (e :: es) [] pos) X.env = (do
      let ov ← eval (.Name x p1) X.env
      standAt apos.atName
      let (f, first) ← holding [ov] (getMethod ov mn pl)
      callWith pos f first (backTo pos (starEach (e :: es) X.env)) (backToKw pos (keywordEach [] X.env))) := by rfl) :
    VX X W own (.Call (.Attribute (.Name x p1) mn apos) (e :: es) [] pos) (methX c mn n J m i fs) := by
  subst hn
  obtain ⟨C, f, fd, h1, h2, h3, h4, h5⟩ := C
  exact ⟨peW (pe_methS' (pl := pl) pv h2 h3 h5 (hr.mono hk) h4 (fun σ => passAt tk σ) ha.pa hst hpl ht) fun σ H Q ⟨B, ρ, st, o⟩ => meth_core hi h1 st (fun R z => z) o⟩
theorem vx_meth0 {mn : Str} {i n : Nat} (C : CalBM X.prog X.w X.K X.mg X.base c mn ps J k m) (hr : Room k' X.A) (tk : Takes X W) (pv : PE X (.Name x p1) (tVar i)) (hi : i ∈ own := by decide) (hk : k ≤ k' := by decide) (hn : ps.length = n := by rfl) {pl : Sem Bool}
    (ht : eval (.Call (.Attribute (.Name x p1) mn apos) [] [] pos) X.env = (do
      let ov ← eval (.Name x p1) X.env
      standAt apos.atName
      let (f, first) ← holding [ov] (getMethod ov mn pl)
      callWith pos f first (backTo pos (starEach [] X.env)) (backToKw pos (keywordEach [] X.env))) := by rfl) :
    VX X W own (.Call (.Attribute (.Name x p1) mn apos) [] [] pos) (methX c mn n J m i nilXA) := by
  subst hn
  obtain ⟨C, f, fd, h1, h2, h3, h4, h5⟩ := C
  exact ⟨peW (pe_meth0S' (pl := pl) pv h2 h3 h5 (hr.mono hk) h4 (fun σ => passAt tk σ) ht) fun σ H Q ⟨B, ρ, st, o⟩ => meth_core hi h1 st (fun R ⟨B, ρ, ⟨S, F, b, y⟩, o⟩ => o [] H ⟨S, F, [], b, y, .nil, (fun _ z => nomatch z), fun _ _ _ z => nomatch z⟩) o⟩
end
end Vs

namespace Vs
open PySem PySem.Spec PyProof.Rows L2

/-! ### statements over readings that may change slots -/
def bindX {α : Type} (x : RX α) (k : α → Env → Sr) : Sr := match x with
  | .ok a ρ => k a ρ
  | .ex c ρ => .ex c ρ
  | .st => .st
@[simp] theorem bindX_ok {α : Type} (a : α) (ρ : Env) (k : α → Env → Sr) : bindX (.ok a ρ) k = k a ρ := rfl
@[simp] theorem bindX_ex {α : Type} (c : Str) (ρ : Env) (k : α → Env → Sr) : bindX (.ex c ρ) k = .ex c ρ := rfl
@[simp] theorem bindX_st {α : Type} (k : α → Env → Sr) : bindX (.st) k = .st := rfl
section
variable {K : PySem.W.Frag} {mg : Str → Option Value} {W : WX} {own own' : List Nat} {ol : Ol} {B : Hp} {D : Ends} {ρ : Env} {σ : L2.St} {H : Hp} {v : V} {d : Vs.D}
theorem SEnd.outX {α : Type} {x : RX α} {k : α → Env → Sr} (pn : Pin ol.P σ) (we : ∀ i ∈ ol.e, i ∈ own) (h : SEnd K mg W own' ol B D (bindX x k)) : OutX K mg W own B σ x fun a ρ => SEnd K mg W own' ol B D (k a ρ) := by
  cases x with
  | st => exact h
  | ok a ρ => exact h
  | ex c ρ => obtain ⟨C, h1, h2⟩ := h; exact ⟨C, h1, fun H' s => h2 σ H' (s.weak we) pn⟩
theorem StaV.sta (h : StaV own B K ρ σ H v d) : Sta own B K ρ σ H := let ⟨S, F, _, b, y, _⟩ := h; ⟨S, F, b, y⟩
theorem StaV.weak (h : StaV own B K ρ σ H v d) (w : ∀ i ∈ own', i ∈ own) : StaV own' B K ρ σ H v d := by
  obtain ⟨S, F, A, b, y, f, n1, n2⟩ := h
  refine ⟨_, F, A, b.trans (ext_s _), y.weakX w, f, fun a ha => ?_, fun j m => n2 j (w j m)⟩
  obtain ⟨o, h1, h2⟩ := f.soft a ha
  refine ext_none (n1 a ha) (fun z => ?_) fun o' e => by rw [h1] at e; cases e; exact h2
  obtain ⟨j, hj, hz⟩ := List.mem_flatMap.mp z
  exact n2 j (List.mem_filter.mp hj).1 a ha hz
end
def exprX (f : Env → RX D) (ρ : Env) : Sr := bindX (f ρ) fun _ ρ => .nx ρ
def setX (i : Nat) (f : Env → RX D) (ρ : Env) : Sr := bindX (f ρ) fun d ρ => .nx (ρ.set i (some d))
def retB (f : Env → R D) (ρ : Env) : Sr := bindS (f ρ) ρ fun d => .rb d ρ
def retNB (ρ : Env) : Sr := .rb .non ρ
def retXB (f : Env → RX D) (ρ : Env) : Sr := bindX (f ρ) fun d ρ => .rb d ρ
def retX (f : Env → RX D) (ρ : Env) : Sr := bindX (f ρ) fun d _ => .rt d
def ifX (t : Env → RX Bool) (a b : Env → Sr) (ρ : Env) : Sr := bindX (t ρ) fun c ρ => if c = true then a ρ else b ρ
section
variable {X : Cx} {W : WX} {own own' : List Nat} {ol : Ol} {e c : Expr} {f : Env → RX D} {g : Env → R D} {t : Env → RX Bool} {a b : Env → Sr} {s1 s2 : List Stmt} {pos : Pos}
theorem vs_exprX (he : VX X W own e f) (hs : swapsWith e none pos.line X.env = pure false := by rfl) (we : ∀ i ∈ ol.e, i ∈ own := by first | decide | (dsimp only; decide)) : VS X W own own ol (.Expr e pos) (exprX f) :=
  ⟨psW (ps_expr he.pe hs) fun D σ H ⟨B, ρ, x, pn, q⟩ => ⟨B, ρ, x, (SEnd.outX pn we q).mono fun d ρ' _ q v H' z => q σ H' z.sta pn⟩⟩
theorem vs_setX (i : Nat) {x : Str} {pos' : Pos} (hN : X.N.Nodup) (hi : X.N[i]? = some x) (hx : Loc X.env.scope x) (he : VX X W own e f) (hs : swapsWith e (some (.Name x pos')) pos.line X.env = pure false := by rfl) (hf : X.fn x = true ∨ X.env.scope.names.lookup x = some .local := by first | exact .inl rfl | exact .inr rfl | assumption) (we : ∀ i ∈ ol.e, i ∈ own := by first | decide | (dsimp only; decide)) (hp : ol.P i = none := by rfl) :
    VS X W own (i :: own) ol (.Assign [.Name x pos'] e pos) (setX i f) := ⟨psW (ps_set hN hi hx he.pe hs hf) fun D σ H ⟨B, ρ, x, pn, q⟩ => ⟨B, ρ, x, (SEnd.outX pn we q).mono fun d ρ' _ q v H' ⟨S, F, A, b, y, f, n1, n2⟩ =>
      q _ _ ⟨S, _, b, y.put2 f (fun a ha => ⟨n1 a ha, fun j m => n2 j m a ha⟩) i⟩ (pn.set hp)⟩⟩
theorem vs_retB (he : VG X W e g) (we : ∀ i ∈ ol.e, i ∈ own := by first | decide | (dsimp only; decide)) (wr : ∀ i ∈ ol.r, i ∈ own := by first | decide | (dsimp only; decide)) : VS X W own own' ol (.Return (some e) pos) (retB g) :=
  ⟨psW (ps_ret he.pe) fun D σ H ⟨B, ρ, x, pn, q⟩ => ⟨ρ, x.env, (SEnd.out x pn we q).mono fun d _ q v H' A s fu n => q v σ H' ((x.staV s fu n).weak wr) pn⟩⟩
theorem vs_retNB (wr : ∀ i ∈ ol.r, i ∈ own := by first | decide | (dsimp only; decide)) : VS X W own own' ol (.Return none pos) retNB :=
  ⟨psW ps_retN fun D σ H ⟨B, ρ, x, pn, q⟩ => q .non σ H ((x.staV (Same.refl _) .non (fun _ z => nomatch z)).weak wr) pn⟩
theorem vs_retXB (he : VX X W own e f) (we : ∀ i ∈ ol.e, i ∈ own := by first | decide | (dsimp only; decide)) (wr : ∀ i ∈ ol.r, i ∈ own := by first | decide | (dsimp only; decide)) : VS X W own own' ol (.Return (some e) pos) (retXB f) :=
  ⟨psW (ps_ret he.pe) fun D σ H ⟨B, ρ, x, pn, q⟩ => ⟨B, ρ, x, (SEnd.outX pn we q).mono fun d ρ' _ q v H' z => q v σ H' (z.weak wr) pn⟩⟩
theorem vs_retX (he : VX X W own e f) (we : ∀ i ∈ ol.e, i ∈ own := by first | decide | (dsimp only; decide)) : VS X W own own' ol (.Return (some e) pos) (retX f) :=
  ⟨psW (ps_ret he.pe) fun D σ H ⟨B, ρ, x, pn, q⟩ => ⟨B, ρ, x, (SEnd.outX pn we q).mono fun d ρ' _ q v H' ⟨S, F, A, b, y, f, n1, n2⟩ => q v H' A (b.trans y.sub) f fun a m => b.free (n1 a m)⟩⟩
theorem vs_ifX (hc : VXT X W own c t) (h1 : VSs X W own own' ol s1 a) (h2 : VSs X W own own' ol s2 b) (we : ∀ i ∈ ol.e, i ∈ own := by first | decide | (dsimp only; decide)) : VS X W own own' ol (.If c s1 s2 pos) (ifX t a b) :=
  ⟨psW (ps_if hc.pt h1.ps h2.ps) fun D σ H ⟨B, ρ, x, pn, q⟩ => ⟨B, ρ, x, (SEnd.outX pn we q).mono fun k ρ' _ q H' z => by
    cases k with
    | true => exact ⟨B, ρ', z, pn, q⟩
    | false => exact ⟨B, ρ', z, pn, q⟩⟩⟩
/-- a slot's list handed out by a def that is lent others -/
def retVB (i : Nat) (ρ : Env) : Sr := match ρ[i]? with
  | some (some d) => .rb d (ρ.set i none)
  | _ => .st
theorem vs_retVB (i : Nat) {x : Str} {pos' : Pos} (p : PE X (.Name x pos') (tVar i)) (hi : i ∈ own := by decide) (hni : i ∉ ol.r := by first | decide | (dsimp only; decide)) (wr : ∀ j ∈ ol.r, j ∈ own := by first | decide | (dsimp only; decide)) :
    VS X W own own' ol (.Return (some (.Name x pos')) pos) (retVB i) := ⟨psW (ps_ret p) fun D σ H ⟨B, ρ, x, pn, q⟩ => by
  unfold retVB at q
  split at q
  · rename_i d e
    obtain ⟨S, F, b, y⟩ := x
    obtain ⟨v, h1, h2, _⟩ := y.val i d e
    have w : ∀ j, j ∈ own.filter (fun j => decide (j ≠ i)) ↔ j ∈ own ∧ j ≠ i := fun j => by rw [List.mem_filter]; simp
    have z : StaV (own.filter fun j => decide (j ≠ i)) B X.K (ρ.set i none) σ H v d := ⟨S, F, F i, b, y.drop w, h2 hi, fun a ha => (y.out i hi a ha).1, fun j m a ha => y.dis i hi j ((w j).mp m).1 (Ne.symm ((w j).mp m).2) a ha⟩
    exact ⟨v, h1, q v σ H (z.weak fun j m => (w j).mpr ⟨wr j m, fun e => hni (e ▸ m)⟩) pn⟩
  · exact q.elim⟩
/-! ### tests -/
def boolX (f : Env → RX D) (ρ : Env) : RX Bool := (f ρ).bind fun d ρ => match d with | .bl b => .ok b ρ | _ => .st
def andX (t u : Env → RX Bool) (ρ : Env) : RX Bool := (t ρ).bind fun b ρ => if b = true then u ρ else .ok false ρ
def orX (t u : Env → RX Bool) (ρ : Env) : RX Bool := (t ρ).bind fun b ρ => if b = true then .ok true ρ else u ρ
def notX (t : Env → RX Bool) (ρ : Env) : RX Bool := (t ρ).bind fun b ρ => .ok (!b) ρ
theorem vxt_val (h : VX X W own e f) (he : ∀ whole, isTrue e X.env whole = (do let v ← whole; standAt e.pos; holding [v] (truthy v)) := by intro _; rfl) : VXT X W own e (boolX f) :=
  ⟨ptW (pt_val h.pe he) fun σ H Q ⟨B, ρ, x, o⟩ => ⟨B, ρ, x, (OutX.bind o).mono fun d ρ' _ q v H' z => by
    have zs := z.sta
    obtain ⟨S, F, A, b, y, f, n1, n2⟩ := z
    cases f with
    | bl k => exact ⟨k, rfl, q H' zs⟩
    | _ => exact q.elim⟩⟩
theorem vxt_not (h : VXT X W own e t) : VXT X W own (.UnaryOp .Not e pos) (notX t) := ⟨ptW (pt_not h.pt) fun σ H Q ⟨B, ρ, x, o⟩ => ⟨B, ρ, x, (OutX.bind o).mono fun d ρ' _ q H' z => q H' z⟩⟩
theorem VXW.vxt (h : VXW X W own e t) : VXT X W own e t := ⟨h.pw.pt⟩
theorem vxw_and1 (h : VXT X W own e t) : VXW X W own (.BoolOp .And [e] pos) t := ⟨pw_and1 h.pt⟩
theorem vxw_or1 (h : VXT X W own e t) : VXW X W own (.BoolOp .Or [e] pos) t := ⟨pw_or1 h.pt⟩
theorem vxw_and {u : Env → RX Bool} {rest : List Expr} (ha : VXT X W own e t) (hb : VXW X W own (.BoolOp .And (c :: rest) pos) u) : VXW X W own (.BoolOp .And (e :: c :: rest) pos) (andX t u) :=
  ⟨pwW (pw_and ha.pt hb.pw) fun σ H Q ⟨B, ρ, x, o⟩ => ⟨B, ρ, x, (OutX.bind o).mono fun k ρ' _ q H' z => by
    cases k with
    | true => exact ⟨B, ρ', z, q⟩
    | false => exact q H' z⟩⟩
theorem vxw_or {u : Env → RX Bool} {rest : List Expr} (ha : VXT X W own e t) (hb : VXW X W own (.BoolOp .Or (c :: rest) pos) u) : VXW X W own (.BoolOp .Or (e :: c :: rest) pos) (orX t u) :=
  ⟨pwW (pw_or ha.pt hb.pw) fun σ H Q ⟨B, ρ, x, o⟩ => ⟨B, ρ, x, (OutX.bind o).mono fun k ρ' _ q H' z => by
    cases k with
    | true => exact q H' z
    | false => exact ⟨B, ρ', z, q⟩⟩⟩
end

/-! ### try: body, except h: suite, else: more -/
def noexS : Sr → Sr
  | .ex _ _ => .st
  | r => r
def tryES (tb : List (Str × Bool)) (b s o : Env → Sr) (ρ : Env) : Sr := match b ρ with
  | .nx ρ' => o ρ'
  | .ex c ρ' => (match tb.lookup c with
    | some true => noexS (s ρ')
    | some false => .ex c ρ'
    | none => .st)
  | r => r
section
variable {X : Cx} {W : WX} {own own' own1 own2 own3 oe : List Nat} {ol : Ol} {b s o : Env → Sr} {tb : List (Str × Bool)} {pos : Pos}
theorem vs_tryE {h : Str} {body suite orelse : List Stmt} {b₀ : Stmt} {np pos' : Pos} (E : ExM X.K X.mg h tb) (hs : X.stack = X.env :: X.outer) (hf : X.env.frame = some X.env.locals) (hg : Gl X h) (tk : Takes X W)
    (hb : ∀ (W : WX) (pn : List (Addr × Obj)) (xe : Value → Shared → Prop), Takes (X.tr pn xe) W → PassesOwn (model X.prog X.w) X.A X.env xe → VSs (X.tr pn xe) W own own1 { ol with e := oe } body b)
    (hsu : ∀ (a : Addr) (ob : Obj) (pn : List (Addr × Obj)), VSs (X.suite a ((a, ob) :: pn)) (fun _ _ _ _ => False) oe own2 { ol with e := [] } (b₀ :: suite) s)
    (ho : VSs X W own1 own3 ol orelse o)
    (w2 : ∀ i ∈ own', i ∈ own2 := by decide) (w3 : ∀ i ∈ own', i ∈ own3 := by decide) (w4 : ∀ j ∈ ol.e, j ∈ oe := by first | decide | (dsimp only; decide)) (hdb : (h == ("__debug__" : Str)) = false := by decide) :
    VS X W own own' ol (.Try body [.ExceptHandler (some (.Name h np)) none (b₀ :: suite) pos'] orelse [] pos) (tryES tb b s o) := by
  obtain ⟨Ch, eh, E⟩ := E.ex
  refine ⟨psW (ps_try_onlyE (c := .ref Ch) (Wout := W) (u := tS X.K X.mg W own1 own3 ol o) (tb := fun W => tS X.K X.mg W own own1 { ol with e := oe } b)
    (ts := fun a cls d => fun D σ H => tS X.K X.mg (fun _ _ _ _ => False) oe own2 { ol with e := [] } s D σ H) ho.ps hs hf ⟨hg, hdb, .inl eh⟩ tk
    (fun W pn xe tk po => (hb W pn xe tk po).ps) (fun a ob cls d pn hz hf => (hsu a ob pn).ps)) fun D σ H ⟨B, ρ, x, pn, q⟩ => ⟨B, ρ, x, pn, ?_⟩⟩
  unfold tryES at q
  cases e : b ρ with
  | st => rw [e] at q; exact q.elim
  | nx ρ' => rw [e] at q; exact fun σ H y pz => ⟨B, ρ', y, pz, q.weak w3⟩
  | rt d => rw [e] at q; exact q
  | rb d ρ' => rw [e] at q; exact q
  | bk ρ' => rw [e] at q; exact q
  | ct ρ' => rw [e] at q; exact q
  | ex c ρ' =>
    rw [e] at q
    simp only at q
    cases et : tb.lookup c with
    | none => rw [et] at q; exact q.elim
    | some k =>
      rw [et] at q
      cases k with
      | false =>
        obtain ⟨C, hC, q⟩ := q
        obtain ⟨C2, h2, e2⟩ := E c false et
        rw [hC] at h2
        cases h2
        exact ⟨C, hC, fun σ' H' y pz => ⟨false, e2, (fun z => nomatch z), fun _ => q σ' H' (y.weak w4) pz⟩⟩
      | true =>
        simp only at q
        obtain ⟨C, hC, eC⟩ := E c true et
        refine ⟨C, hC, fun σ' H' y pz => ⟨true, eC, fun _ a ha => ⟨B, ρ', y, pz, ?_⟩, (fun z => nomatch z)⟩⟩
        cases es : s ρ' with
        | st => rw [es] at q; exact q.elim
        | nx ρ2 => rw [es] at q; exact (show SEnd X.K X.mg W own' ol B D (.nx ρ2) from q).weak w2
        | rt d => rw [es] at q; exact q
        | rb d ρ2 => rw [es] at q; exact q
        | bk ρ2 => rw [es] at q; exact q
        | ct ρ2 => rw [es] at q; exact q
        | ex c2 ρ2 => rw [es] at q; exact q.elim
end

/-! ### fields -/
def idxS : List Str → Str → Option Nat
  | [], _ => none
  | k :: ks, f => if k = f then some 0 else (idxS ks f).map (· + 1)
def lookD (ks : List Str) (ds : List D) (f : Str) : Option D := (idxS ks f).bind fun j => ds[j]?
/-- the table tb: by class the fields that are no class's own -/
def fldOk (tb : List (Str × List Str)) (c f : Str) : Prop := f ∈ (tb.lookup c).getD []
instance (tb : List (Str × List Str)) (c f : Str) : Decidable (fldOk tb c f) := inferInstanceAs (Decidable (_ ∈ _))
def fldD (tb : List (Str × List Str)) (f : Str) : D → R D
  | .obj c ks ds => if fldOk tb c f then (match lookD ks ds f with | some d => .ok d | none => .st) else .st
  | _ => .st
def fldE (tb : List (Str × List Str)) (nm : Str) (f : Env → R D) (ρ : Env) : R D := (f ρ).bind (fldD tb nm)
structure FT (K : PySem.W.Frag) (tb : List (Str × List Str)) : Prop where
  ok : ∀ c f, fldOk tb c f → ∃ C, PySem.W.nsIn K mainGlobals c = some (some (.ref C)) ∧ Cls K C ∧ NoAttr K C f
theorem idxS_fs {α : Type} : ∀ {fs : List (Str × α)} {f : Str} {j : Nat}, idxS (fs.map (·.1)) f = some j → ∃ z, (fs.map (·.2))[j]? = some z ∧ fs.lookup f = some z
  | [], f, j, h => by cases h
  | (k, v) :: fs, f, j, h => by
    rw [List.map_cons, idxS] at h
    split at h
    · rename_i e
      cases h
      have e : k = f := e
      subst e
      exact ⟨v, rfl, by simp⟩
    · rename_i e
      have e : ¬ k = f := e
      cases h2 : idxS (fs.map (·.1)) f with
      | none => rw [h2] at h; cases h
      | some i =>
        rw [h2] at h
        cases h
        obtain ⟨z, h3, h4⟩ := idxS_fs h2
        refine ⟨z, by simpa using h3, ?_⟩
        rw [List.lookup_cons, show (f == k) = false by simpa using fun w : f = k => e w.symm]
        exact h4
theorem idxS_none {ks : List Str} {f : Str} (h : idxS ks f = none) : f ∉ ks := by
  induction ks with
  | nil => exact fun z => nomatch z
  | cons k ks ih =>
    rw [idxS] at h
    split at h
    · cases h
    · rename_i e
      intro z
      rcases List.mem_cons.mp z with z | z
      · exact e z.symm
      · cases h2 : idxS ks f with
        | none => exact ih h2 z
        | some i => rw [h2] at h; cases h
theorem idxS_lt {ks : List Str} {f : Str} {j : Nat} (h : idxS ks f = some j) : j < ks.length := by
  induction ks generalizing j with
  | nil => cases h
  | cons k ks ih =>
    rw [idxS] at h
    split at h
    · cases h; simp
    · cases h2 : idxS ks f with
      | none => rw [h2] at h; cases h
      | some i =>
        rw [h2] at h
        cases h
        have := ih h2
        simp; omega
/-- an object's field put -/
def setF (nm : Str) (d : D) (c : Str) (ks : List Str) (ds : List D) : D := match idxS ks nm with
  | some j => .obj c ks (ds.set j d)
  | none => .obj c (ks ++ [nm]) (ds ++ [d])
theorem putF_some {nm : Str} {u : V} : ∀ {fs : List (Str × V)} {j : Nat}, idxS (fs.map (·.1)) nm = some j → (putF nm u fs).map (·.1) = fs.map (·.1) ∧ (putF nm u fs).map (·.2) = (fs.map (·.2)).set j u
  | [], j, h => by cases h
  | (k, v) :: fs, j, h => by
    rw [List.map_cons, idxS] at h
    rw [putF]
    split at h
    · rename_i e
      cases h
      rw [if_pos e]
      exact ⟨rfl, rfl⟩
    · rename_i e
      rw [if_neg e]
      cases h2 : idxS (fs.map (·.1)) nm with
      | none => rw [h2] at h; cases h
      | some i =>
        rw [h2] at h
        cases h
        obtain ⟨h3, h4⟩ := putF_some h2
        exact ⟨by rw [List.map_cons, h3, List.map_cons], by rw [List.map_cons, h4, List.map_cons]; rfl⟩
theorem putF_none {nm : Str} {u : V} : ∀ {fs : List (Str × V)}, idxS (fs.map (·.1)) nm = none → (putF nm u fs).map (·.1) = fs.map (·.1) ++ [nm] ∧ (putF nm u fs).map (·.2) = fs.map (·.2) ++ [u]
  | [], h => ⟨rfl, rfl⟩
  | (k, v) :: fs, h => by
    rw [List.map_cons, idxS] at h
    rw [putF]
    split at h
    · cases h
    · rename_i e
      rw [if_neg e]
      cases h2 : idxS (fs.map (·.1)) nm with
      | some i => rw [h2] at h; cases h
      | none =>
        obtain ⟨h3, h4⟩ := putF_none (u := u) h2
        exact ⟨by rw [List.map_cons, h3, List.map_cons]; rfl, by rw [List.map_cons, h4, List.map_cons]; rfl⟩
theorem rds_look {K : PySem.W.Frag} {H : Hp} {fs : List (Str × V)} {ds : List D} {f : Str} {d : D} (r : Rds K H (fs.map (·.2)) ds) (h : lookD (fs.map (·.1)) ds f = some d) : ∃ v, fs.lookup f = some v ∧ Rd K H v d := by
  unfold lookD at h
  cases hj : idxS (fs.map (·.1)) f with
  | none => rw [hj] at h; cases h
  | some j =>
    rw [hj] at h
    obtain ⟨v, h1, h2⟩ := r.get (show ds[j]? = some d from h)
    obtain ⟨z, h3, h4⟩ := idxS_fs hj
    rw [h1] at h3
    cases h3
    exact ⟨_, h4, h2⟩
theorem FT.at {K : PySem.W.Frag} {tb : List (Str × List Str)} (T : FT K tb) {c f : Str} (h : fldOk tb c f) {C : Addr} (n : NameK K c C) : Cls K C ∧ NoAttr K C f := by
  obtain ⟨C', h1, h2, h3⟩ := T.ok c f h
  have n : PySem.W.nsIn K mainGlobals c = some (some (.ref C)) := n
  rw [h1] at n
  cases n
  exact ⟨h2, h3⟩
section
variable {X : Cx} {W : WX} {own own' : List Nat} {ol : Ol} {a e : Expr} {f fe : Env → R D} {tb : List (Str × List Str)} {nm : Str} {pos pos' : Pos} {i : Nat} {fp : Env → R (List Nat)}
theorem ve_fld (T : FT X.K tb) (ha : VE X W a f) (hb : attributeBase a nm X.env (eval a X.env) = eval a X.env := by rfl) : VE X W (.Attribute a nm pos) (fldE tb nm f) :=
  ⟨peW (pe_fld ha.pe hb) fun σ H Q ⟨ρ, re, o⟩ => ⟨ρ, re, (Out.bind o).mono fun d _ q v H1 s1 r1 => by
    cases r1 with
    | @obj a C dx fs c ks ds g1 g2 g3 g4 g5 =>
      have q : Out X.mg W σ H (if fldOk tb c nm then (match lookD ks ds nm with | some d => .ok d | none => .st) else .st) _ := q
      by_cases z : fldOk tb c nm
      rotate_left
      · rw [if_neg z] at q; exact q.elim
      rw [if_pos z] at q
      subst g4
      cases hl : lookD (fs.map (·.1)) ds nm with
      | none => rw [hl] at q; exact q.elim
      | some d =>
        rw [hl] at q
        obtain ⟨v, h1, h2⟩ := rds_look g5 hl
        obtain ⟨k1, k2⟩ := T.at z g3
        exact ⟨a, C, dx, fs, v, rfl, g1, k1, k2, h1, q v H1 s1 h2⟩
    | _ => exact q.elim⟩⟩
theorem vp_fld (T : FT X.K tb) (ha : VP X W own a f) (hb : attributeBase a nm X.env (eval a X.env) = eval a X.env := by rfl) : VP X W own (.Attribute a nm pos) (fldE tb nm f) :=
  ⟨peW (pe_fld ha.pe hb) fun σ H Q ⟨ρ, S, F, st, o⟩ => ⟨ρ, S, F, st, (Out.bind o).mono fun d _ q v H1 A s1 n1 r1 => by
    cases r1 with
    | @obj a C dx fs c ks ds g1 g2 g3 g4 g5 =>
      have q : Out X.mg W σ H (if fldOk tb c nm then (match lookD ks ds nm with | some d => .ok d | none => .st) else .st) _ := q
      by_cases z : fldOk tb c nm
      rotate_left
      · rw [if_neg z] at q; exact q.elim
      rw [if_pos z] at q
      subst g4
      cases hl : lookD (fs.map (·.1)) ds nm with
      | none => rw [hl] at q; exact q.elim
      | some d =>
        rw [hl] at q
        obtain ⟨v, h1, h2⟩ := rds_look g5 hl
        obtain ⟨k1, k2⟩ := T.at z g3
        exact ⟨a, C, dx, fs, v, rfl, ext_h (st.sub.trans s1) A _ _ g1, k1, k2, h1, q v H1 A s1 n1 h2⟩
    | _ => exact q.elim⟩⟩
def fldP (tb : List (Str × List Str)) (i : Nat) (fp : Env → R (List Nat)) (nm : Str) (ρ : Env) : R (List Nat) := (fp ρ).bind fun p => match atP i p ρ with
  | some (.obj c ks ds) => if fldOk tb c nm then (match idxS ks nm with | some j => .ok (p ++ [j]) | none => .st) else .st
  | _ => .st
theorem vl_fld (T : FT X.K tb) (ha : VL X W own i a fp) (hb : attributeBase a nm X.env (eval a X.env) = eval a X.env := by rfl) : VL X W own i (.Attribute a nm pos) (fldP tb i fp nm) :=
  ⟨peW (pe_fld ha.pe hb) fun σ H Q ⟨ρ, S, F, st, hi, o⟩ => ⟨ρ, S, F, st, hi, (Out.bind (show Out X.mg W σ H ((fp ρ).bind _) _ from o)).mono fun p _ q => by
    cases ha : atP i p ρ with
    | none => rw [ha] at q; exact q.elim
    | some d0 =>
      rw [ha] at q
      cases d0 with
      | obj c ks ds =>
        obtain ⟨d, hd, hg⟩ := atP_some ha
        have q1 : Out X.mg W σ H (if fldOk tb c nm then (match idxS ks nm with | some j => R.ok (p ++ [j]) | none => .st) else .st) _ := q
        by_cases z : fldOk tb c nm
        rotate_left
        · rw [if_neg z] at q1; exact q1.elim
        rw [if_pos z] at q1
        cases hj : idxS ks nm with
        | none => rw [hj] at q1; exact q1.elim
        | some j =>
          rw [hj] at q1
          refine ⟨⟨d, _, hd, hg⟩, fun v w H1 hv s1 nv => ?_⟩
          obtain ⟨v', w', B, e1, e2, e3, _⟩ := st.place hi hd hg
          rw [hv] at e1
          cases e1
          have ew := navH_fun (navH_mono s1 e2) nv
          subst ew
          cases e3 with
          | @obj pa C dx fs _ _ _ A1 g1 g2 g3 g4 g5 _ _ _ =>
            subst g4
            obtain ⟨zv, h1, h2⟩ := idxS_fs hj
            obtain ⟨k1, k2⟩ := T.at z g3
            have q2 : Out X.mg W σ H (R.ok (p ++ [j])) _ := q1
            obtain ⟨_, q⟩ := q2
            exact ⟨pa, C, dx, fs, zv, rfl, s1 _ _ g1, k1, k2, h2, q v zv H1 hv s1 (navH_app nv ⟨pa, zv, rfl, .inr ⟨C, dx, fs, s1 _ _ g1, h1⟩, rfl⟩)⟩
      | _ => exact q.elim⟩⟩
/-- an object at a place takes a field -/
theorem put_obj {S H : Hp} {F : Nat → List Addr} {ρ : Env} {σ : L2.St} {p : List Nat} {c : Str} {ks : List Str} {ds : List D} (y : Stx own X.K S F ρ σ H) (hi : i ∈ own) (ha : atP i p ρ = some (.obj c ks ds)) :
    (∃ d e, ρ[i]? = some (some d) ∧ getP p d = some e) ∧ ∃ v a C dx fs, σ[i]? = some (some v) ∧ navH H p v (.ref a) ∧ H a = some (.ins C dx fs) ∧ NameK X.K c C ∧ ks = fs.map (·.1) ∧ Rds X.K H (fs.map (·.2)) ds ∧
      ∀ (S1 H1 : Hp) (F1 : Nat → List Addr) (u : V) (d : D) (Au : List Addr) (nm : Str), Stx own X.K S1 F1 ρ σ H1 → Same H H1 → Fu X.K H1 u d Au → (∀ x ∈ Au, S1 x = none ∧ ∀ j ∈ own, x ∉ F1 j) →
        ∃ d' F', putP i p (setF nm d c ks ds) ρ = .nx (ρ.set i (some d')) ∧ Stx own X.K S1 F' (ρ.set i (some d')) σ (upd H1 a (.ins C dx (putF nm u fs))) := by
  obtain ⟨d0, hd, hg⟩ := atP_some ha
  obtain ⟨v, w, B, e1, e2, e3, e4, _⟩ := y.place hi hd hg
  cases e3 with
  | @obj a C dx fs _ _ _ A1 g1 g2 g3 g4 g5 g6 g7 g8 =>
    subst g4
    refine ⟨⟨d0, _, hd, hg⟩, v, a, C, dx, fs, e1, e2, g1, g3, rfl, g5.rd, fun S1 H1 F1 u d Au nm y1 s1 fu nu => ?_⟩
    obtain ⟨v', w', B', k1, k2, k3, k4, k5⟩ := y1.place hi hd hg
    rw [e1] at k1
    cases k1
    have ew := navH_fun (navH_mono s1 e2) k2
    subst ew
    cases k3 with
    | @obj _ C' dx' fs' _ _ _ A2 q1 q2 q3 q4 q5 q6 q7 q8 =>
      have ee := s1 _ _ g1
      rw [q1] at ee
      cases ee
      have ns : ¬ Stt (.ins C dx (putF nm u fs)) := fun z => (show False from z)
      have hao : ∃ o, H1 a = some o ∧ ¬ Stt o := ⟨_, q1, fun z => (show False from z)⟩
      have ma : a ∈ F1 i := (k4 a List.mem_cons_self).2.1
      have naU : a ∉ Au := fun z => (nu a z).2 i hi ma
      have offA2 : ∀ x ∈ A2, x ∉ Au := fun x hx z => (nu x z).2 i hi (k4 x (List.mem_cons_of_mem _ (List.mem_cons_of_mem _ hx))).2.1
      have nxU : dx ∉ Au := fun z => (nu dx z).2 i hi (k4 dx (List.mem_cons_of_mem _ List.mem_cons_self)).2.1
      have fin : ∀ (ds' : List D) (A3 : List Addr), Fus X.K H1 ((putF nm u fs).map (·.2)) ds' A3 → (∀ x ∈ A3, x ∈ A2 ∨ x ∈ Au) → ∃ d' F', setP p (.obj c ((putF nm u fs).map (·.1)) ds') d0 = some d' ∧ Stx own X.K S1 F' (ρ.set i (some d')) σ (upd H1 a (.ins C dx (putF nm u fs))) := fun ds' A3 f3 m3 => by
        have na3 : a ∉ A3 := fun z => (m3 a z).elim q6 naU
        have nx3 : dx ∉ A3 := fun z => (m3 dx z).elim q7 nxU
        refine k5 a (.ins C dx (putF nm u fs)) _ (a :: dx :: A3) List.mem_cons_self ns (.obj upd_same ((upd_ne fun z => q8 z.symm).trans q2) q3 rfl (f3.at (fun x hx => upd_ne fun z => na3 (z ▸ hx)) fun b o st hs => upd_stt hao st hs) na3 nx3 q8) fun x hx => ?_
        rcases List.mem_cons.mp hx with z | z
        · exact .inl (z ▸ List.mem_cons_self)
        · rcases List.mem_cons.mp z with z | z
          · exact .inl (z ▸ List.mem_cons_of_mem _ List.mem_cons_self)
          · rcases m3 x z with z | z
            · exact .inl (List.mem_cons_of_mem _ (List.mem_cons_of_mem _ z))
            · exact .inr (nu x z)
      unfold setF putP
      rw [hd]
      simp only
      cases hj : idxS (fs.map (·.1)) nm with
      | some j =>
        obtain ⟨p1, p2⟩ := putF_some (u := u) hj
        obtain ⟨A3, f3, m3⟩ := Fus.set (A := A2) (ds := ds) (vs := fs.map (·.2)) fu q5 (fun x hx hA => offA2 x hA hx) j
        obtain ⟨d', F', z1, z2⟩ := fin (ds.set j d) A3 (by rw [p2]; exact f3) m3
        rw [p1] at z1
        exact ⟨d', F', by simp only [z1], z2⟩
      | none =>
        obtain ⟨p1, p2⟩ := putF_none (u := u) hj
        obtain ⟨d', F', z1, z2⟩ := fin (ds ++ [d]) (A2 ++ (Au ++ [])) (by rw [p2]; exact q5.app (.cons fu .nil fun _ _ z => nomatch z) fun x hx hb => by rw [List.append_nil] at hb; exact offA2 x hx hb) fun x hx => by
          rw [List.append_nil] at hx
          exact List.mem_append.mp hx
        rw [p1] at z1
        exact ⟨d', F', by simp only [z1], z2⟩
def fldS (tb : List (Str × List Str)) (i : Nat) (fp : Env → R (List Nat)) (nm : Str) (fe : Env → R D) (ρ : Env) : Sr := bindS (fe ρ) ρ fun d => bindS (fp ρ) ρ fun p => match atP i p ρ with
  | some (.obj c ks ds) => if fldOk tb c nm ∧ ks.length < 1000 then putP i p (setF nm d c ks ds) ρ else .st
  | _ => .st
theorem vs_fld (T : FT X.K tb) (ha : VL X W own i a fp) (he : VG X W e fe) (hs : swapsWith e (some (.Attribute a nm pos')) pos.line X.env = pure false := by rfl) (hi : i ∈ own := by decide) (we : ∀ i ∈ ol.e, i ∈ own := by first | decide | (dsimp only; decide)) :
    VS X W own own ol (.Assign [.Attribute a nm pos'] e pos) (fldS tb i fp nm fe) := ⟨psW (ps_fld ha.pe he.pe hs) fun En σ H ⟨B, ρ, x, pn, q⟩ => by
  unfold fldS at q
  have q := SEnd.out x pn we q
  obtain ⟨S, F, b, y⟩ := x
  refine ⟨ρ, y.env, q.mono fun d _ q u H1 C s1 f1 n1 => ?_⟩
  have y1 := y.grow s1 (A := []) (fun _ z => nomatch z)
  have b1 := b.trans (ext_s (S := S) (H := H1) [])
  have fr := y.fresh s1 f1 n1
  have q := SEnd.out (own' := own) (σ := σ) (H := H1) ⟨_, _, b1, y1⟩ pn we q
  refine ⟨ρ, _, _, y1, hi, q.mono fun pt _ q => ?_⟩
  cases ha : atP i pt ρ with
  | none => rw [ha] at q; exact q.elim
  | some d0 =>
    rw [ha] at q
    cases d0 with
    | obj c ks ds =>
      have q1 : SEnd X.K X.mg W own ol B En (if fldOk tb c nm ∧ ks.length < 1000 then putP i pt (setF nm d c ks ds) ρ else .st) := q
      by_cases z : fldOk tb c nm ∧ ks.length < 1000
      rotate_left
      · rw [if_neg z] at q1; exact q1.elim
      rw [if_pos z] at q1
      obtain ⟨g0, v, pa, C0, dx, fs, e1, e2, e3, e4, e5, e6, e7⟩ := put_obj y1 hi ha
      refine ⟨g0, fun v' w H2 hv s2 nv => ?_⟩
      rw [e1] at hv
      cases hv
      have ew := navH_fun (navH_mono s2 e2) nv
      subst ew
      have y2 := y1.grow s2 (A := []) (fun _ z => nomatch z)
      obtain ⟨k1, k2⟩ := T.at z.1 e4
      obtain ⟨d', F', z1, z2⟩ := e7 _ H2 _ u d C nm y2 s2 (f1.same s2) fun x hx => ⟨by
        obtain ⟨o, g1, g2⟩ := f1.soft x hx
        exact ext_none (fr x hx).1 (fun z => nomatch z) fun o' e => by rw [s2 _ _ g1] at e; cases e; exact g2, (fr x hx).2⟩
      rw [z1] at q1
      subst e5
      refine ⟨pa, C0, dx, fs, rfl, s2 _ _ e3, k1, k2, by have := z.2; rw [List.length_map] at this; exact this, q1 σ _ ⟨_, _, b1.trans (ext_s []), z2⟩ pn⟩
    | _ => exact q.elim⟩
def augFS (tb : List (Str × List Str)) (i : Nat) (fp : Env → R (List Nat)) (nm : Str) (fe : Env → R D) (ρ : Env) : Sr := bindS (fp ρ) ρ fun p => match atP i p ρ with
  | some (.obj c ks ds) => if fldOk tb c nm ∧ ks.length < 1000 then (match lookD ks ds nm with
    | some (.int x) => bindS (fe ρ) ρ fun y => (match y with
      | .int y => putP i p (setF nm (.int (x + y)) c ks ds) ρ
      | _ => .st)
    | _ => .st) else .st
  | _ => .st
/-- o.f += e, ints -/
theorem vs_augF {tpos : Pos} (T : FT X.K tb) (ha : VL X W own i a fp) (he : VE X W e fe) (hi : i ∈ own := by decide) (we : ∀ i ∈ ol.e, i ∈ own := by first | decide | (dsimp only; decide)) :
    VS X W own own ol (.AugAssign (.Attribute a nm tpos) .Add e pos) (augFS tb i fp nm fe) := ⟨psW (ps_fldaug ha.pe he.pe in_add) fun En σ H ⟨B, ρ, x, pn, q⟩ => by
  unfold augFS at q
  have q := SEnd.out x pn we q
  obtain ⟨S, F, b, y⟩ := x
  refine ⟨ρ, S, F, y, hi, q.mono fun pt _ q => ?_⟩
  cases ha : atP i pt ρ with
  | none => rw [ha] at q; exact q.elim
  | some d0 =>
    rw [ha] at q
    cases d0 with
    | obj c ks ds =>
      have q : SEnd X.K X.mg W own ol B En (if fldOk tb c nm ∧ ks.length < 1000 then (match lookD ks ds nm with
        | some (.int x) => bindS (fe ρ) ρ fun y => (match y with
          | .int y => putP i pt (setF nm (.int (x + y)) c ks ds) ρ
          | _ => .st)
        | _ => .st) else .st) := q
      by_cases z : fldOk tb c nm ∧ ks.length < 1000
      rotate_left
      · rw [if_neg z] at q; exact q.elim
      rw [if_pos z] at q
      obtain ⟨g0, v, pa, C0, dx, fs, e1, e2, e3, e4, e5, e6, e7⟩ := put_obj y hi ha
      subst e5
      cases hl : lookD (fs.map (·.1)) ds nm with
      | none => rw [hl] at q; exact q.elim
      | some d1 =>
        rw [hl] at q
        cases d1 with
        | int n =>
          refine ⟨g0, fun v' w H1 hv s1 nv => ?_⟩
          rw [e1] at hv
          cases hv
          have ew := navH_fun (navH_mono s1 e2) nv
          subst ew
          obtain ⟨uv, h1, h2⟩ := rds_look e6 hl
          cases h2
          obtain ⟨k1, k2⟩ := T.at z.1 e4
          have y1 := y.grow s1 (A := []) (fun _ z => nomatch z)
          have b1 := b.trans (ext_s (S := S) (H := H1) [])
          have q := SEnd.out (own' := own) (σ := σ) (H := H1) ⟨_, _, b1, y1⟩ pn we (show SEnd X.K X.mg W own ol B En (bindS (fe ρ) ρ _) from q)
          refine ⟨pa, C0, dx, fs, _, rfl, s1 _ _ e3, k1, k2, h1, ρ, y1.env, q.mono fun d _ q u H2 s2 r2 => ?_⟩
          cases d with
          | int m =>
            cases r2
            have y2 := y1.grow s2 (A := []) (fun _ z => nomatch z)
            obtain ⟨d', F', z1, z2⟩ := e7 _ H2 _ (.int (n + m)) (.int (n + m)) [] nm y2 (s1.trans s2) (.int _) (fun _ z => nomatch z)
            have q : SEnd X.K X.mg W own ol B En (putP i pt (setF nm (.int (n + m)) c (fs.map (·.1)) ds) ρ) := q
            rw [z1] at q
            refine ⟨n, m, rfl, rfl, dx, fs, s2 _ _ (s1 _ _ e3), by have := z.2; rw [List.length_map] at this; exact this, q σ _ ⟨_, _, b1.trans (ext_s []), z2⟩ pn⟩
          | _ => exact q.elim
        | _ => exact q.elim
    | _ => exact q.elim⟩
end

/-! ### objects made -/
section
variable {X : Cx} {W : WX} {e o : Expr} {es : List Expr} {fs : Env → R (List D)} {f : Env → R D} {c mn : Str} {p apos pos : Pos} {ps : List Str} {k k' n : Nat} {m : List D → RX D} {mr : List D → R D}
def tMakeS' (C : Addr) (sp : Sp) (E : L2.St → XK) (t : TA) : TE := fun σ H Q => t σ H fun vs H1 => ∀ x dx, H1 x = none → H1 dx = none → dx ≠ x →
  sp (.ref x :: vs) (upd (upd H1 dx (.own x)) x (.ins C dx [])) (fun v H2 => v = .non ∧ Q (.ref x) H2) (E σ)
theorem run_makeS' {CX : CXT} {C f : Addr} {fd : FuncData} {sp : Sp} {E : L2.St → XK} {pins : List (Addr × Obj)} {σ : L2.St} {H : Hp} {s : Shared} {Q : VK} {us : List Value} {vs : List V} (M : Mk X.K C f) (F : FnOk X.prog X.w X.K X.mg X.base CX k f fd ps sp) (hr : Room (k + 1) X.A) (hb : Binds X.K fd ps [])
    (hx : PassesAt CX X σ (E σ)) (I : Inv X pins σ H s) (r : Vals vs us)
    (h : ∀ x dx, H x = none → H dx = none → dx ≠ x → sp (.ref x :: vs) (upd (upd H dx (.own x)) x (.ins C dx [])) (fun v H2 => v = .non ∧ Q (.ref x) H2) (E σ)) :
    wpAny (model X.prog X.w) X.A (call (.ref C) us) (EP X pins σ Q) X.xe s := by
  have hq := h (s.heap.objs.size + 1) s.heap.objs.size (I.hok.fresh (Nat.le_succ _)) (I.hok.fresh (Nat.le_refl _)) (Nat.ne_of_lt (Nat.lt_succ_self _))
  have I2 := Inv.made (C := C) I
  have r2 : Vals (V.ref (s.heap.objs.size + 1) :: vs) (Value.ref (s.heap.objs.size + 1) :: us) := .cons rfl r
  have hl : (Value.ref (s.heap.objs.size + 1) :: us).length = ps.length := by
    have e := r2.length
    rw [F.len _ _ _ _ hq] at e
    exact e.symm
  have bb := hb _ (Value.ref (s.heap.objs.size + 1) :: us) I2.kIn (by rw [List.append_nil]; exact hl)
  rw [List.append_nil] at bb
  refine wpAny_call (make_map (f := f) I.kIn M.makes M.init (beq_iff_eq.mp M.fn) (codeAny_mono (F.run _ X.stack _ _ ⟨Value.ref (s.heap.objs.size + 1) :: us, []⟩ (Value.ref (s.heap.objs.size + 1) :: us) _ _ (E σ) (hr.make C us [])
    (I2.env0.make C us []) bb r2 hq) fun r s' hq' => ?_))
  cases r with
  | error e => exact hx pins _ _ e s' I2 hq'
  | ok fl =>
    cases fl with
    | ret u =>
      obtain ⟨v, H', I3, rv, ev, q3⟩ := I2.after hq'
      subst ev
      exact ⟨rv, ⟨V.ref (s.heap.objs.size + 1), H', I3, rfl, q3⟩⟩
    | next => exact False.elim hq'
    | brk => exact False.elim hq'
    | cont => exact False.elim hq'
theorem pe_makeS' {CX : CXT} {C f : Addr} {fd : FuncData} {sp : Sp} {E : L2.St → XK} {t : TA} (M : Mk X.K C f) (F : FnOk X.prog X.w X.K X.mg X.base CX k f fd ps sp) (hr : Room (k + 1) X.A) (hg : Gl X c) (hm : X.mg c = some (.ref C)) (hb : Binds X.K fd ps []) (hx : ∀ σ, PassesAt CX X σ (E σ))
    (ha : PA X (e :: es) t) (hdb : (c == ("__debug__" : Str)) = false := by decide) (he : starEach (e :: es) X.env = (false, eval e X.env) :: starEach es X.env := by rfl) (hpl : (backTo pos (starEach es X.env)).any (·.1) = false := by rfl) :
    PE X (.Call (.Name c p) (e :: es) [] pos) (tMakeS' C sp E t) := by
  refine ⟨fun pins s σ H Q I h => ?_⟩
  refine wpAny_Call_Name_kw (ld_glob I hg hm ?_ hdb)
  refine PySem.W.callWith_K (h₀ := X.base) I.ok.mod.kin M.kp (thn (ha.run pos pins s σ H _ I h) fun us s1 ⟨vs, H1, I1, r, q⟩ => ⟨I1.kIn, ?_⟩) he hpl
  exact run_makeS' M F hr hb (hx σ) I1 r q
theorem pe_make0S' {CX : CXT} {C f : Addr} {fd : FuncData} {sp : Sp} {E : L2.St → XK} (M : Mk X.K C f) (F : FnOk X.prog X.w X.K X.mg X.base CX k f fd ps sp) (hr : Room (k + 1) X.A) (hg : Gl X c) (hm : X.mg c = some (.ref C)) (hb : Binds X.K fd ps []) (hx : ∀ σ, PassesAt CX X σ (E σ))
    (hdb : (c == ("__debug__" : Str)) = false := by decide) : PE X (.Call (.Name c p) [] [] pos) (tMakeS' C sp E tNil) := by
  refine ⟨fun pins s σ H Q I h => ?_⟩
  refine wpAny_Call_Name_kw (ld_glob I hg hm ?_ hdb)
  exact PySem.W.callWith_K0 I.kIn M.kp (run_makeS' (us := []) M F hr hb (hx σ) I .nil h)
/-- C(..): the arguments never change -/
def makeF (c : Str) (n : Nat) (m : List D → RX D) (fs : Env → R (List D)) (ρ : Env) : R D := (fs ρ).bind fun ds => if immDs ds = true ∧ ds.length + 1 = n then (match m (.obj c [] [] :: ds) with
  | .ok .non es => (match es[0]? with
    | some (some o) => .ok o
    | _ => .st)
  | .ex x _ => .ex x
  | _ => .st) else .st
theorem make_core {K : PySem.W.Frag} {mg : Str → Option Value} {σ : L2.St} {H H1 : Hp} {C : Addr} {vs : List V} {ds : List D} {Q : VK} (hC : PySem.W.nsIn K mainGlobals c = some (some (.ref C))) (s1 : Same H H1) (r1 : Rds K H1 vs ds)
    (q : Out mg W σ H (if immDs ds = true ∧ ds.length + 1 = n then (match m (.obj c [] [] :: ds) with
      | .ok .non es => (match es[0]? with
        | some (some o) => R.ok o
        | _ => .st)
      | .ex x _ => .ex x
      | _ => .st) else .st) fun d => ∀ v H' A, Same H H' → Fu K H' v d A → (∀ a ∈ A, H a = none) → Q v H') :
    ∀ x dx, H1 x = none → H1 dx = none → dx ≠ x → spB K mg n [0] m (.ref x :: vs) (upd (upd H1 dx (.own x)) x (.ins C dx [])) (fun v H2 => v = .non ∧ Q (.ref x) H2) (WE W σ) := by
  intro x dx hx hdx ne
  by_cases z : immDs ds = true ∧ ds.length + 1 = n
  rotate_left
  · rw [if_neg z] at q; exact q.elim
  rw [if_pos z] at q
  obtain ⟨z1, z2⟩ := z
  have sA : Same H1 (upd H1 dx (.own x)) := new_same hdx
  have hx2 : (upd H1 dx (.own x)) x = none := by rw [upd_ne fun e => ne e.symm]; exact hx
  have sB : Same H1 (upd (upd H1 dx (.own x)) x (.ins C dx [])) := sA.trans (new_same hx2)
  generalize hH2 : upd (upd H1 dx (.own x)) x (.ins C dx []) = H2 at sB
  have ex : H2 x = some (.ins C dx []) := by rw [← hH2, upd_same]
  have edx : H2 dx = some (.own x) := by rw [← hH2, upd_ne ne, upd_same]
  have rd2 := r1.mono sB
  have fd := rd2.fu z1
  have offx : ∀ a ∈ [x, dx], ext H H2 [] a = none ∧ ∃ o, H2 a = some o ∧ ¬ Stt o := fun a ha => by
    rcases List.mem_cons.mp ha with e | ha
    · subst e
      exact ⟨ext_none (s1.free hx) (fun z => nomatch z) (fun o e => by rw [ex] at e; cases e; exact fun z => (show False from z)), _, ex, fun z => (show False from z)⟩
    · have e := List.mem_singleton.mp ha
      subst e
      exact ⟨ext_none (s1.free hdx) (fun z => nomatch z) (fun o e => by rw [edx] at e; cases e; exact fun z => (show False from z)), _, edx, fun z => (show False from z)⟩
  have st : Stx [0] K (ext H H2 []) (fun _ => [x, dx]) ((D.obj c [] [] :: ds).map some) ((V.ref x :: vs).map some) H2 := by
    refine ⟨by rw [List.length_map, List.length_map, List.length_cons, List.length_cons, r1.length], ext_h (s1.trans sB) _, fun a o e t => ext_stt (s1.trans sB) e t, fun i d e => ?_, fun i _ => offx, fun i m j m' ne => ?_⟩
    · cases i with
      | zero =>
        have e : D.obj c [] [] = d := by simpa using e
        subst e
        exact ⟨.ref x, rfl, fun _ => .obj (A := []) ex edx hC rfl .nil (fun z => nomatch z) (fun z => nomatch z) ne.symm, fun n => absurd List.mem_cons_self n⟩
      | succ i =>
        have e : ds[i]? = some d := by
          rw [List.map_cons, List.getElem?_cons_succ, List.getElem?_map] at e
          cases z : ds[i]? with
          | none => rw [z] at e; cases e
          | some d' => rw [z] at e; simpa using e
        obtain ⟨v, A', h1, h2, h3⟩ := fd.get e
        refine ⟨v, by rw [List.map_cons, List.getElem?_cons_succ, List.getElem?_map, h1]; rfl, fun m => absurd (List.mem_singleton.mp m) (by simp), fun _ => ?_⟩
        have hA : A' = [] := List.eq_nil_iff_forall_not_mem.mpr fun a ha => nomatch h3 a ha
        subst hA
        exact (h2.at (fun _ z => nomatch z) fun b o st hs => ext_stt (s1.trans sB) hs st).rd
    · rw [List.mem_singleton.mp m, List.mem_singleton.mp m'] at ne
      exact absurd rfl ne
  refine ⟨by rw [List.length_cons, r1.length]; exact z2, _, _, _, st, ?_⟩
  cases hm : m (.obj c [] [] :: ds) with
  | st => rw [hm] at q; exact q.elim
  | ex cx es =>
    rw [hm] at q
    obtain ⟨C', h1, h2⟩ := q
    exact ⟨C', h1, fun H' z => h2 H' ((ext_s []).trans z.base)⟩
  | ok d es =>
    rw [hm] at q
    cases d with
    | non =>
      simp only at q
      split at q
      · rename_i od eo
        intro v H' ⟨S2, F2, A2, s2, x2, f2, n1, n2⟩
        cases f2
        refine ⟨rfl, ?_⟩
        obtain ⟨v', g1, g2, _⟩ := x2.val 0 od eo
        have g1 : V.ref x = v' := by simpa using g1
        subst g1
        exact q _ H' (F2 0) ((ext_s []).trans (s2.trans x2.sub)) (g2 (by simp)) fun a ha => ((ext_s []).trans s2).free (x2.out 0 (by simp) a ha).1
      · exact q.elim
    | _ => exact q.elim
theorem vg_make (C : CalMk X.prog X.w X.K X.mg X.base c ps k m) (hr : Room k' X.A) (tk : Takes X W) (hg : Gl X c) (ha : VA X W (e :: es) fs) (hk : k + 1 ≤ k' := by decide) (hn : ps.length = n := by rfl) (hdb : (c == ("__debug__" : Str)) = false := by decide)
    (he : starEach (e :: es) X.env = (false, eval e X.env) :: starEach es X.env := by rfl) (hpl : (backTo pos (starEach es X.env)).any (·.1) = false := by rfl) : VG X W (.Call (.Name c p) (e :: es) [] pos) (makeF c n m fs) := by
  subst hn
  obtain ⟨C, f, fd, h1, h2, h3, h4, h5⟩ := C
  exact ⟨peW (pe_makeS' h3 h5 (hr.mono hk) hg h2 h4 (fun σ => passAt tk σ) ha.pa hdb he hpl) fun σ H Q ⟨ρ, re, o⟩ => ⟨ρ, re, (Out.bind o).mono fun ds _ q vs H1 s1 r1 => make_core h1 s1 r1 q⟩⟩
theorem vg_make0 (C : CalMk X.prog X.w X.K X.mg X.base c ps k m) (hr : Room k' X.A) (tk : Takes X W) (hg : Gl X c) (hk : k + 1 ≤ k' := by decide) (hn : ps.length = n := by rfl) (hdb : (c == ("__debug__" : Str)) = false := by decide) : VG X W (.Call (.Name c p) [] [] pos) (makeF c n m nilA) := by
  subst hn
  obtain ⟨C, f, fd, h1, h2, h3, h4, h5⟩ := C
  exact ⟨peW (pe_make0S' h3 h5 (hr.mono hk) hg h2 h4 (fun σ => passAt tk σ) hdb) fun σ H Q ⟨ρ, re, o⟩ => make_core h1 (Same.refl H) .nil (Out.bind (show Out X.mg W σ H ((nilA ρ).bind _) _ from o))⟩

/-! ### methods that change nothing -/
def methF (c mn : Str) (m : List D → R D) (f : Env → R D) (fs : Env → R (List D)) (ρ : Env) : R D := (f ρ).bind fun d => match d with
  | .obj c' ks _ => if c' = c ∧ mn ∉ ks then (fs ρ).bind fun ds => m (d :: ds) else .st
  | _ => .st
theorem methF_core {K : PySem.W.Frag} {mg : Str → Option Value} {σ : L2.St} {H H1 : Hp} {C : Addr} {ρ : Env} {t : TA} {v : V} {d : D} {Q : VK} (hC : PySem.W.nsIn K mainGlobals c = some (some (.ref C))) (re : REnv K ρ σ H) (s1 : Same H H1) (r1 : Rd K H1 v d)
    (ht : ∀ (R : List V → Hp → Prop), (∃ ρ, REnv K ρ σ H1 ∧ Out mg W σ H1 (fs ρ) fun ds => ∀ vs H', Same H1 H' → Rds K H' vs ds → R vs H') → t σ H1 R) (hl : LenA fs n) (hn : n + 1 = ps.length)
    (q : Out mg W σ H (match d with
      | .obj c' ks _ => if c' = c ∧ mn ∉ ks then (fs ρ).bind fun ds => mr (d :: ds) else .st
      | _ => .st) fun d => ∀ v H' A, Same H H' → Fu K H' v d A → (∀ a ∈ A, H a = none) → Q v H') :
    ∃ a dx fl, v = .ref a ∧ H1 a = some (.ins C dx fl) ∧ fl.lookup mn = none ∧ t σ H1 fun vs H2 => spF K mg ps.length mr (v :: vs) H2 Q (WE W σ) := by
  cases r1 with
  | @obj a C' dx fl c' ks ds g1 g2 g3 g4 g5 =>
    have q1 : Out mg W σ H (if c' = c ∧ mn ∉ ks then (fs ρ).bind fun es => mr (.obj c' ks ds :: es) else .st) _ := q
    by_cases z : c' = c ∧ mn ∉ ks
    rotate_left
    · rw [if_neg z] at q1; exact q1.elim
    rw [if_pos z] at q1
    obtain ⟨rfl, z⟩ := z
    have eC : C' = C := by
      have g3' : PySem.W.nsIn K mainGlobals c' = some (some (.ref C')) := g3
      rw [hC] at g3'
      cases g3'; rfl
    subst eC
    subst g4
    refine ⟨a, dx, fl, rfl, g1, lookup_none z, ht _ ⟨ρ, re.mono s1, ((Out.bind q1).up s1).mono fun es he q vs H2 s2 r2 => ?_⟩⟩
    refine ⟨by rw [List.length_cons, r2.length, hl ρ es he]; exact hn, _, .cons ((Rd.obj g1 g2 g3 rfl g5).mono s2) r2, ?_⟩
    cases hm : mr (.obj c' (fl.map (·.1)) ds :: es) with
    | ok d => rw [hm] at q; exact fun v H' A s3 f3 n3 => q v H' A ((s1.trans s2).trans s3) f3 fun a z => (s1.trans s2).free (n3 a z)
    | ex cx => rw [hm] at q; obtain ⟨C, h1, h2⟩ := q; exact ⟨C, h1, fun H' s3 => h2 H' ((s1.trans s2).trans s3)⟩
    | st => rw [hm] at q; exact q.elim
  | _ => exact q.elim
theorem vg_meth (C : CalM X.prog X.w X.K X.mg X.base c mn ps k mr) (hr : Room k' X.A) (tk : Takes X W) (ho : VE X W o f) (ha : VA X W (e :: es) fs) (hl : LenA fs n) (hn : n + 1 = ps.length := by rfl) (hk : k ≤ k' := by decide)
    (hst : starEach (e :: es) X.env = (false, eval e X.env) :: starEach es X.env := by rfl) (hpl : (backTo pos (starEach es X.env)).any (·.1) = false := by rfl) {pl : Sem Bool}
    (ht : eval (.Call (.Attribute o mn apos) (e :: es) [] pos) X.env = (do
      let ov ← eval o X.env
      standAt apos.atName
      let (f, first) ← holding [ov] (getMethod ov mn pl)
      callWith pos f first (backTo pos (starEach (e :: es) X.env)) (backToKw pos (keywordEach [] X.env))) := by rfl) :
    VG X W (.Call (.Attribute o mn apos) (e :: es) [] pos) (methF c mn mr f fs) := by
  obtain ⟨C, f, fd, h1, h2, h3, h4, h5⟩ := C
  exact ⟨peW (pe_methS' (pl := pl) ho.pe h2 h3 h5 (hr.mono hk) h4 (fun σ => passAt tk σ) ha.pa hst hpl ht) fun σ H Q ⟨ρ, re, o⟩ => ⟨ρ, re, (Out.bind o).mono fun d _ q v H1 s1 r1 => methF_core h1 re s1 r1 (fun R z => z) hl hn q⟩⟩
theorem vg_meth0 (C : CalM X.prog X.w X.K X.mg X.base c mn ps k mr) (hr : Room k' X.A) (tk : Takes X W) (ho : VE X W o f) (hn : 0 + 1 = ps.length := by rfl) (hk : k ≤ k' := by decide) {pl : Sem Bool}
    (ht : eval (.Call (.Attribute o mn apos) [] [] pos) X.env = (do
      let ov ← eval o X.env
      standAt apos.atName
      let (f, first) ← holding [ov] (getMethod ov mn pl)
      callWith pos f first (backTo pos (starEach [] X.env)) (backToKw pos (keywordEach [] X.env))) := by rfl) :
    VG X W (.Call (.Attribute o mn apos) [] [] pos) (methF c mn mr f nilA) := by
  obtain ⟨C, f, fd, h1, h2, h3, h4, h5⟩ := C
  exact ⟨peW (pe_meth0S' (pl := pl) ho.pe h2 h3 h5 (hr.mono hk) h4 (fun σ => passAt tk σ) ht) fun σ H Q ⟨ρ, re, o⟩ => ⟨ρ, re, (Out.bind o).mono fun d _ q v H1 s1 r1 => methF_core h1 re s1 r1 (fun R ⟨ρ, re, o⟩ => o [] H1 (Same.refl _) .nil) len_nil hn q⟩⟩
end
end Vs

namespace Vs
open PySem PySem.Spec PyProof.Rows L2

/-! ### what the top has written: classes -/
def ClsK (K : PySem.W.Frag) (c : Str) : Prop := ∃ C, PySem.W.nsIn K mainGlobals c = some (some (.ref C)) ∧ Cls K C
theorem clsK_mk {K : PySem.W.Frag} {c : Str} {C : Addr} (a : PySem.W.nsIn K mainGlobals c = some (some (.ref C))) (pg : PySem.W.plainGet K C Str.empty = true) (hd : PySem.W.hasDictIn K C = true) (po : PySem.W.plainOver K C = true) (sa : PySem.W.findIn K (.ref C) "__setattr__" = some (some (.builtin "object.__setattr__"))) : ClsK K c := ⟨C, a, pg, hd, po, sa⟩
def FldK (K : PySem.W.Frag) (c f : Str) : Prop := ∃ C, PySem.W.nsIn K mainGlobals c = some (some (.ref C)) ∧ NoAttr K C f
theorem fldK_mk {K : PySem.W.Frag} {c f : Str} {C : Addr} (a : PySem.W.nsIn K mainGlobals c = some (some (.ref C))) (n : PySem.W.findIn K (.ref C) f = some none) : FldK K c f := ⟨C, a, n⟩
def FRow (K : PySem.W.Frag) (c : Str) (l : List Str) : Prop := ∀ f ∈ l, FldK K c f
theorem fr_nil {K : PySem.W.Frag} {c : Str} : FRow K c [] := fun f h => nomatch h
theorem fr_cons {K : PySem.W.Frag} {c f : Str} {l : List Str} (p : FldK K c f) (r : FRow K c l) : FRow K c (f :: l) := fun g h => (List.mem_cons.mp h).elim (fun e => e ▸ p) (r g)
theorem ft_nil {K : PySem.W.Frag} : FT K [] := ⟨fun c f h => nomatch h⟩
theorem ft_cons {K : PySem.W.Frag} {c : Str} {l : List Str} {tb : List (Str × List Str)} (p : ClsK K c) (r : FRow K c l) (t : FT K tb) : FT K ((c, l) :: tb) := ⟨fun c' f h => by
  unfold fldOk at h
  rw [List.lookup_cons] at h
  split at h
  · rename_i e
    have e : c' = c := by simpa using e
    subst e
    obtain ⟨C, h1, h2⟩ := p
    obtain ⟨C', h3, h4⟩ := r f h
    rw [h1] at h3
    cases h3
    exact ⟨C, h1, h2, h4⟩
  · exact t.ok c' f h⟩
def MetK (K : PySem.W.Frag) (c x qual : Str) (st : Stmt) : Prop := ∃ (C f : Addr) (oc : Value) (od : Option Addr) (kV doc pm : Value) (an : Option Addr) (cd ct : Value) (sl : Array (Option Value)),
  PySem.W.nsIn K mainGlobals c = some (some (.ref C)) ∧ PySem.W.findIn K (.ref C) x = some (some (.ref f)) ∧ PySem.W.isFn K (.ref f) = true ∧
  K.lookup f = some ⟨oc, od, .func (PySem.W.fnOf x qual (defArgs st) (defBody st) (defScope st) .none kV doc pm an cd ct), sl⟩ ∧ PySem.W.codeIn K cd qual = true ∧ PySem.W.keepIn K (.ref f) = true
theorem metK_mk {K : PySem.W.Frag} {c x qual : Str} {st : Stmt} {C f : Addr} {oc : Value} {od : Option Addr} {kV doc pm : Value} {an : Option Addr} {cd ct : Value} {sl : Array (Option Value)}
    (a : PySem.W.nsIn K mainGlobals c = some (some (.ref C))) (b : PySem.W.findIn K (.ref C) x = some (some (.ref f))) (c' : PySem.W.isFn K (.ref f) = true)
    (d : K.lookup f = some ⟨oc, od, .func (PySem.W.fnOf x qual (defArgs st) (defBody st) (defScope st) .none kV doc pm an cd ct), sl⟩) (e : PySem.W.codeIn K cd qual = true) (f' : PySem.W.keepIn K (.ref f) = true) : MetK K c x qual st :=
  ⟨C, f, oc, od, kV, doc, pm, an, cd, ct, sl, a, b, c', d, e, f'⟩
theorem mdef_of {K : PySem.W.Frag} {h : Heap} {mg : Str → Option Value} {c x qual : Str} {st : Stmt} (X : K.In h) (G : h.Ns mainGlobals mg) (p : ClsK K c) (m : MetK K c x qual st) : MDef K mg c x qual st := by
  obtain ⟨C, h1, h2⟩ := p
  obtain ⟨C', f, oc, od, kV, doc, pm, an, cd, ct, sl, a, b, c', d, e, f'⟩ := m
  rw [h1] at a
  cases a
  exact ⟨C, f, _, h1, PySem.W.mg_of X G h1, h2, ⟨b, c', f'⟩, fun_mk d e f'⟩
def MkC (K : PySem.W.Frag) (c : Str) : Prop := ∃ C, PySem.W.nsIn K mainGlobals c = some (some (.ref C)) ∧ PySem.W.makesIn K C = true ∧ PySem.W.keepIn K (.ref C) = true
theorem mkC_mk {K : PySem.W.Frag} {c : Str} {C : Addr} (a : PySem.W.nsIn K mainGlobals c = some (some (.ref C))) (b : PySem.W.makesIn K C = true) (k : PySem.W.keepIn K (.ref C) = true) : MkC K c := ⟨C, a, b, k⟩
theorem MkC.mk {K : PySem.W.Frag} {c : Str} (M : MkC K c) : ∀ C f, PySem.W.nsIn K mainGlobals c = some (some (.ref C)) → Meth K C "__init__" f → Mk K C f := fun C f h m => by
  obtain ⟨C', h1, h2, h3⟩ := M
  rw [h] at h1
  cases h1
  exact ⟨h2, m.at_, m.fn, h3⟩
section
variable {P : Program} {w : World} {K : PySem.W.Frag} {mg : Str → Option Value} {base : Heap} {x c : Str} {ps : List Str} {J : List Nat} {k k' : Nat} {m : List D → RX D}
theorem CalB.at (C : CalB P w K mg base x ps J k m) (h : k = k') : CalB P w K mg base x ps J k' m := h ▸ C
theorem CalBM.at (C : CalBM P w K mg base c x ps J k m) (h : k = k') : CalBM P w K mg base c x ps J k' m := h ▸ C
end
end Vs

namespace L2
open PySem PySem.Spec PyProof.Rows
section
variable {P : Program} {w : World} {K : PySem.W.Frag}
/-- the lists at a, b and c as they stand at each turn, the items in new triples -/
def Itz3 (K : PySem.W.Frag) (a b c : Addr) : It :=
  ⟨fun i H => ∃ (xs ys zs : List V) (x y u : V), SqL K H a xs ∧ SqL K H b ys ∧ SqL K H c zs ∧ xs[i]? = some x ∧ ys[i]? = some y ∧ zs[i]? = some u,
    fun i H v H' => ∃ T x y u, v = .ref T ∧ H T = none ∧ H' = upd H T (.tup [x, y, u]) ∧ (∀ xs, SqL K H a xs → xs[i]? = some x) ∧ (∀ ys, SqL K H b ys → ys[i]? = some y) ∧ ∀ zs, SqL K H c zs → zs[i]? = some u,
    fun i H => ∃ xs ys zs : List V, SqL K H a xs ∧ SqL K H b ys ∧ SqL K H c zs ∧ (xs.length ≤ i ∨ ys.length ≤ i ∨ zs.length ≤ i)⟩
/-- what a list's iterator draws at the place where it stands, perhaps behind the end -/
theorem draws_at {A : Around} (hh : A.handled = none) (it l : Addr) (hne : l ≠ it) (items : Array Value) (i : Nat) (h : Heap) (hit : h.IsListIter it l i) (hl : h.IsList l items) :
    ∃ (n : Nat) (Pd : Nat → Value → Prop) (St : Nat → Heap → Prop), Draws P w A it [it, l] n Pd St ∧ St i h ∧ i ≤ n ∧ (items.size ≤ i → i = n) := by
  by_cases q : i < items.size
  · exact ⟨_, _, _, Draws.list hh it l hne items, ⟨hit, hl⟩, Nat.le_of_lt q, fun z => by omega⟩
  · refine ⟨i, fun _ _ => True, fun j h => j = i ∧ h.IsListIter it l i ∧ h.IsList l items, ⟨?_, ?_, ?_, ?_⟩, ⟨rfl, hit, hl⟩, Nat.le_refl _, fun _ => rfl⟩
    · exact fun _ _ st => let ⟨o, ho, _⟩ := st.2.1; ⟨o, ho⟩
    · exact fun _ _ _ st hk => ⟨st.1, st.2.1.at fun o e => hk it (by simp) o e, st.2.2.at fun o e => hk l (by simp) o e⟩
    · exact fun j s Q E hi st hQ => absurd st.1 (Nat.ne_of_lt hi)
    · exact fun s Q E st hE => wpAny_nextOf_list_end hh st.2.1 st.2.2 (by simp; omega) hE
theorem turn_zip3 {elts : List Expr} {kk : Nat} {tpos : Pos} {a b c z TI TO i1 i2 i3 : Addr} (D : ZipSep3 z TI TO i1 i2 i3 [i1, a] [i2, b] [i3, c]) (na : a ≠ i1) (nb : b ≠ i2) (nc : c ≠ i3) :
    Turn P w K (.Tuple elts kk tpos) (Itz3 K a b c) [z, TI, TO, i1, i2, i3] z (fun i h => IsZip h z TI TO .none ∧ IsTupOf3 h TI (.ref i1) (.ref i2) (.ref i3) ∧ (∃ x y u, IsTupOf3 h TO x y u) ∧ h.IsListIter i1 a i ∧ h.IsListIter i2 b i ∧ h.IsListIter i3 c i) where
  mem := by simp
  obj := fun i h st d hd => by
    obtain ⟨hz, hTI, ⟨x, y, u, hTO⟩, ⟨o1, e1, _, d1⟩, ⟨o2, e2, _, d2⟩, ⟨o3, e3, _, d3⟩⟩ := st
    have e' : d = z ∨ d = TI ∨ d = TO ∨ d = i1 ∨ d = i2 ∨ d = i3 := by simpa using hd
    rcases e' with q | q | q | q | q | q
    · rw [q]; exact ⟨_, hz, fun v q => nomatch q⟩
    · rw [q]; exact ⟨_, hTI, fun v q => nomatch q⟩
    · rw [q]; exact ⟨_, hTO, fun v q => nomatch q⟩
    · rw [q]; exact ⟨o1, e1, fun v q => by rw [d1] at q; cases q⟩
    · rw [q]; exact ⟨o2, e2, fun v q => by rw [d2] at q; cases q⟩
    · rw [q]; exact ⟨o3, e3, fun v q => by rw [d3] at q; cases q⟩
  keep := fun i h h' st k => by
    obtain ⟨hz, hTI, ⟨x, y, u, hTO⟩, h1, h2, h3⟩ := st
    exact ⟨k z (by simp) _ hz, k TI (by simp) _ hTI, ⟨x, y, u, k TO (by simp) _ hTO⟩, h1.at fun o q => k i1 (by simp) o q, h2.at fun o q => k i2 (by simp) o q, h3.at fun o q => k i3 (by simp) o q⟩
  item := by
    intro X hP hw hK hc i pins s σ H E I hf st hg
    subst hP hw hK
    obtain ⟨hz, hTI, ⟨x0, y0, u0, hTO⟩, h1, h2, h3⟩ := st
    obtain ⟨xs, ys, zs, x, y, u, hqx, hqy, hqz, hx, hy, hu⟩ := hg
    obtain ⟨its, rv, p, _⟩ := I.list hqx
    obtain ⟨its2, rv2, p2, _⟩ := I.list hqy
    obtain ⟨its3, rv3, p3, _⟩ := I.list hqz
    obtain ⟨v1, hv1, r1⟩ := rv.get hx
    obtain ⟨v2, hv2, r2⟩ := rv2.get hy
    obtain ⟨v3, hv3, r3⟩ := rv3.get hu
    have hzl : z < s.heap.objs.size := Heap.lt_size hz
    have hh : X.A.in1.handled = none := I.ok.hd hc
    have l1 : i < its.toArray.size := by have := (List.getElem?_eq_some_iff.mp hv1).1; simpa using this
    have l2 : i < its2.toArray.size := by have := (List.getElem?_eq_some_iff.mp hv2).1; simpa using this
    have l3 : i < its3.toArray.size := by have := (List.getElem?_eq_some_iff.mp hv3).1; simpa using this
    refine wpAny_pyNext_zipD3_item D (Draws.list hh i1 a na its.toArray) (Draws.list hh i2 b nb its2.toArray) (Draws.list hh i3 c nc its3.toArray) hz hTI hTO ⟨h1, p.isList⟩ ⟨h2, p2.isList⟩ ⟨h3, p3.isList⟩ l1 l2 l3 fun w1 w2 w3 h' tk e1 e2 e3 z' TO' d1 d2 d3 hT hsz hk => ?_
    have e1 : v1 = w1 := by simpa [hv1] using e1
    have e2 : v2 = w2 := by simpa [hv2] using e2
    have e3 : v3 = w3 := by simpa [hv3] using e3
    subst e1 e2 e3
    refine ⟨_, rfl, wpAny_letOwnedTupleGo_zip (s := { s with heap := h', toks := tk }) z' fun h'' z'' sb => ?_⟩
    have hT2 : h''.get? s.heap.objs.size = some { cls := .type "tuple", data := .seq #[v1, v2, v3] } := (sb.2 _ (Nat.ne_of_gt hzl)).trans hT
    have new : ObjOk X.prog X.w (upd H s.heap.objs.size (.tup [x, y, u])) h'' s.heap.objs.size (.tup [x, y, u]) :=
      ⟨by show 3 ≤ sizeLine; decide, [v1, v2, v3], .cons r1 (.cons r2 (.cons r3 .nil)), ⟨_, hT2, rfl, _, rfl⟩⟩
    have I1 : Inv X pins σ (upd H s.heap.objs.size (.tup [x, y, u])) { s with heap := h'', toks := tk } :=
      I.turnedNew (t' := tk) (ch := [z, TI, TO, i1, i2, i3]) (fun d o hb q => (sb.2 d (fun q' => hb (by simp [q']))).trans (hk d o (fun q' => hb (by simp [q'])) (fun q' => hb (by simp [q'])) (fun q' => hb (by simp [q'])) (fun q' => hb (by simp [q'])) (fun q' => hb (by simp [q'])) q)) hf (Nat.le_refl _) new
    refine ⟨.ref s.heap.objs.size, _, I1, rfl, ⟨_, x, y, u, rfl, I.hok.fresh (Nat.le_refl _), rfl, fun l hl => by rw [I.list_inj hl hqx]; exact hx, fun l hl => by rw [I.list_inj hl hqy]; exact hy, fun l hl => by rw [I.list_inj hl hqz]; exact hu⟩, ⟨z'', ?_, ⟨v1, v2, v3, ?_⟩, ?_, ?_, ?_⟩, fun d hdm => ?_⟩
    · exact (sb.2 _ D.TIz).trans (hk _ _ D.TIz D.TITO D.TIi1 D.TIi2 D.TIi3 hTI)
    · exact (sb.2 _ D.TOz).trans TO'
    · exact d1.1.at fun o q => (sb.2 _ D.zi1.symm).trans q
    · exact d2.1.at fun o q => (sb.2 _ D.zi2.symm).trans q
    · exact d3.1.at fun o q => (sb.2 _ D.zi3.symm).trans q
    · have hlt : d < s.heap.objs.size := by
        have e' : d = z ∨ d = TI ∨ d = TO ∨ d = i1 ∨ d = i2 ∨ d = i3 := by simpa using hdm
        rcases e' with q | q | q | q | q | q
        · rw [q]; exact hzl
        · rw [q]; exact Heap.lt_size hTI
        · rw [q]; exact Heap.lt_size hTO
        · rw [q]; obtain ⟨_, e1, _⟩ := h1; exact Heap.lt_size e1
        · rw [q]; obtain ⟨_, e2, _⟩ := h2; exact Heap.lt_size e2
        · rw [q]; obtain ⟨_, e3, _⟩ := h3; exact Heap.lt_size e3
      rw [upd_ne (Nat.ne_of_lt hlt)]
      exact (hf d hdm).1
  done := by
    intro X hP hw hK hc i pins s σ H E I hf st hg
    subst hP hw hK
    obtain ⟨hz, hTI, ⟨x0, y0, u0, hTO⟩, h1, h2, h3⟩ := st
    obtain ⟨xs, ys, zs, hqx, hqy, hqz, hend⟩ := hg
    obtain ⟨its, rv, p, _⟩ := I.list hqx
    obtain ⟨its2, rv2, p2, _⟩ := I.list hqy
    obtain ⟨its3, rv3, p3, _⟩ := I.list hqz
    have l1 := rv.length
    have l2 := rv2.length
    have l3 := rv3.length
    have hh : X.A.in1.handled = none := I.ok.hd hc
    obtain ⟨n1, P1, S1, D1, s1, m1, k1⟩ := draws_at (P := X.prog) (w := X.w) hh i1 a na its.toArray i s.heap h1 p.isList
    obtain ⟨n2, P2, S2, D2, s2, m2, k2⟩ := draws_at (P := X.prog) (w := X.w) hh i2 b nb its2.toArray i s.heap h2 p2.isList
    obtain ⟨n3, P3, S3, D3, s3, m3, k3⟩ := draws_at (P := X.prog) (w := X.w) hh i3 c nc its3.toArray i s.heap h3 p3.isList
    have he : i = n1 ∨ i = n2 ∨ i = n3 := by
      rcases hend with q | q | q
      · exact .inl (k1 (by simp; omega))
      · exact .inr (.inl (k2 (by simp; omega)))
      · exact .inr (.inr (k3 (by simp; omega)))
    exact wpAny_pyNext_zipD3_end D D1 D2 D3 hz hTI hTO s1 s2 s3 m1 m2 m3 he fun h' tk hk => ⟨rfl, I.turnedL (t' := tk) (ch := [z, TI, TO, i1, i2, i3]) (fun d o hb q =>
      hk d o (fun q' => hb (by simp [q'])) (fun q' => hb (by simp [q'])) (fun q' => hb (by simp [q'])) (fun q' => hb (by simp [q'])) (fun q' => hb (by simp [q'])) q) hf⟩
  self := fun A i s Q E st h => wpAny_pyIter_zip st.1 h
def iZip3 (K : PySem.W.Frag) (ta : TA) : TI := fun σ H R => ta σ H fun vs H1 => ∃ a b c xs ys zs, vs = [.ref a, .ref b, .ref c] ∧ SqL K H1 a xs ∧ SqL K H1 b ys ∧ SqL K H1 c zs ∧ R (Itz3 K a b c) H1
theorem pi_zip3 {X : Cx} {e e2 e3 : Expr} {ta : TA} {p pos tpos : Pos} {elts : List Expr} {kk : Nat} (hg : Gl X "zip") (hm : X.mg "zip" = none) (ha : PA X [e, e2, e3] ta)
    (hs : starEach [e, e2, e3] X.env = (false, eval e X.env) :: starEach [e2, e3] X.env := by rfl) (hpl : (backTo pos (starEach [e2, e3] X.env)).any (·.1) = false := by rfl) :
    PI X (.Tuple elts kk tpos) (.Call (.Name "zip" p) [e, e2, e3] [] pos) (iZip3 X.K ta) := by
  refine ⟨fun pins s σ H R I h => ?_⟩
  refine Call_ (ld_blt I hg hm PyProof.Rows.boot_zip (PyProof.Rows.callWith_type1 (thn (ha.run pos pins s σ H _ I h) fun us s1 ⟨vs, H1, I1, r1, q1⟩ => ?_) hs hpl))
  obtain ⟨a, b, c, xs, ys, zs, ex, hqx, hqy, hqz, q⟩ := q1
  subst ex
  cases r1 with
  | cons r rr =>
    cases rr with
    | cons r' rr =>
      cases rr with
      | cons r'' rr =>
        cases rr
        cases r
        cases r'
        cases r''
        obtain ⟨its, rv, p1, _⟩ := I1.list hqx
        obtain ⟨its2, rv2, p2, _⟩ := I1.list hqy
        obtain ⟨its3, rv3, p3, _⟩ := I1.list hqz
        have la : a < s1.heap.objs.size := p1.lt
        have lb : b < s1.heap.objs.size := p2.lt
        have lc : c < s1.heap.objs.size := p3.lt
        refine zip_begins3 (begins_list a its.toArray) (begins_list b its2.toArray) (begins_list c its3.toArray) p1.isList p2.isList p3.isList fun h' hz hTI hTO g1 g2 g3 hsz hk => wpAny_pyIter_zip hz ?_
        have I2 : Inv X pins σ H1 { s1 with heap := h' } := I1.kept (t' := s1.toks) hk
        have D := zip_sep3 (N := s1.heap.objs.size) (fp1 := [a]) (fp2 := [b]) (fp3 := [c]) (fun x hx => by rw [List.mem_singleton.mp hx]; exact la) (fun x hx => by rw [List.mem_singleton.mp hx]; exact lb) (fun x hx => by rw [List.mem_singleton.mp hx]; exact lc)
        refine ⟨s1.heap.objs.size + 5, [s1.heap.objs.size + 5, s1.heap.objs.size + 3, s1.heap.objs.size + 4, s1.heap.objs.size, s1.heap.objs.size + 1, s1.heap.objs.size + 2], _, _, H1, rfl, I2, turn_zip3 D (Nat.ne_of_lt la) (Nat.ne_of_lt (Nat.lt_of_lt_of_le lb (Nat.le_add_right _ _))) (Nat.ne_of_lt (Nat.lt_of_lt_of_le lc (Nat.le_add_right _ _))), ⟨hz, hTI, ⟨_, _, _, hTO⟩, ⟨_, g1, rfl, rfl⟩, ⟨_, g2, rfl, rfl⟩, ⟨_, g3, rfl, rfl⟩⟩, fun d hdm => ?_, q⟩
        have e' : d = s1.heap.objs.size + 5 ∨ d = s1.heap.objs.size + 3 ∨ d = s1.heap.objs.size + 4 ∨ d = s1.heap.objs.size ∨ d = s1.heap.objs.size + 1 ∨ d = s1.heap.objs.size + 2 := by simpa using hdm
        have hle : s1.heap.objs.size ≤ d := by
          rcases e' with z | z | z | z | z | z
          · rw [z]; exact Nat.le_add_right _ _
          · rw [z]; exact Nat.le_add_right _ _
          · rw [z]; exact Nat.le_add_right _ _
          · rw [z]; exact Nat.le_refl _
          · rw [z]; exact Nat.le_add_right _ _
          · rw [z]; exact Nat.le_add_right _ _
        exact I1.fpOk hle (I1.hok.fresh hle)
end
end L2
namespace Vs
open PySem PySem.Spec PyProof.Rows L2
section
variable {X : Cx} {W : WX} {own : List Nat} {a b c : Expr} {fs : Env → R (List D)} {p pos : Pos} {K : PySem.W.Frag} {S : Hp}
def zipL3 : List D → List D → List D → List D
  | d :: ds, e :: es, f :: gs => .tup [d, e, f] :: zipL3 ds es gs
  | _, _, _ => []
theorem zipL3_get : ∀ {ds es gs : List D} {i : Nat} {d : D}, (zipL3 ds es gs)[i]? = some d → ∃ x y u, ds[i]? = some x ∧ es[i]? = some y ∧ gs[i]? = some u ∧ d = .tup [x, y, u]
  | [], _, _, i, d, h => by simp [zipL3] at h
  | _ :: _, [], _, i, d, h => by simp [zipL3] at h
  | _ :: _, _ :: _, [], i, d, h => by simp [zipL3] at h
  | x :: ds, y :: es, u :: gs, 0, d, h => by
    simp [zipL3] at h
    exact ⟨x, y, u, rfl, rfl, rfl, h.symm⟩
  | x :: ds, y :: es, u :: gs, i + 1, d, h => by
    simp only [zipL3, List.getElem?_cons_succ] at h ⊢
    exact zipL3_get h
theorem zipL3_length : ∀ ds es gs : List D, (zipL3 ds es gs).length = min (min ds.length es.length) gs.length
  | [], _, _ => by simp [zipL3]
  | _ :: _, [], _ => by simp [zipL3]
  | _ :: _, _ :: _, [] => by simp [zipL3]
  | x :: ds, y :: es, u :: gs => by simp [zipL3, zipL3_length ds es gs]
theorem it_zip3 {a b c : Addr} {vs ws us : List V} {ds es gs : List D} (h : SqL K S a vs) (r : Rds K S vs ds) (h' : SqL K S b ws) (r' : Rds K S ws es) (h'' : SqL K S c us) (r'' : Rds K S us gs) : IterOk K (Itz3 K a b c) S (zipL3 ds es gs) := fun S1 H1 i s1 s2 => by
  have hq : SqL K H1 a vs := (s1.trans s2).seq h
  have hq' : SqL K H1 b ws := (s1.trans s2).seq h'
  have hq'' : SqL K H1 c us := (s1.trans s2).seq h''
  refine ⟨fun d hd => ?_, fun hl => ⟨vs, ws, us, hq, hq', hq'', by rw [r.length, r'.length, r''.length]; rw [zipL3_length] at hl; omega⟩⟩
  obtain ⟨x, y, u, h1, h2, h3, rfl⟩ := zipL3_get hd
  obtain ⟨v, hv, rv⟩ := r.get h1
  obtain ⟨w, hw, rw_⟩ := r'.get h2
  obtain ⟨t, ht, rt⟩ := r''.get h3
  refine ⟨⟨vs, ws, us, v, w, t, hq, hq', hq'', hv, hw, ht⟩, fun x H' y => ?_⟩
  obtain ⟨T, k1, k2, k3, rfl, hT, rfl, y1, y2, y3⟩ := y
  have e := y1 vs hq
  rw [hv] at e
  cases e
  have e := y2 ws hq'
  rw [hw] at e
  cases e
  have e := y3 us hq''
  rw [ht] at e
  cases e
  have sn : Same H1 (upd H1 T (.tup [v, w, t])) := new_same hT
  exact ⟨sn, .tup (.inl (ext_stt (s2.trans sn) upd_same trivial)) (.cons (rv.mono (s1.trans (ext_s []))) (.cons (rw_.mono (s1.trans (ext_s []))) (.cons (rt.mono (s1.trans (ext_s []))) .nil)))⟩
def zipR3 : List D → R (List D)
  | [.lst xs, .lst ys, .lst zs] => .ok (zipL3 xs ys zs)
  | _ => .st
theorem vi_zip3 {elts : List Expr} {kk : Nat} {tpos : Pos} (hg : Gl X "zip") (hm : X.mg "zip" = none) (ha : VPs X W own [a, b, c] fs) (hs : starEach [a, b, c] X.env = (false, eval a X.env) :: starEach [b, c] X.env := by rfl) (hpl : (backTo pos (starEach [b, c] X.env)).any (·.1) = false := by rfl) :
    VI X W own (.Tuple elts kk tpos) (.Call (.Name "zip" p) [a, b, c] [] pos) (itR zipR3 fs) :=
  ⟨piW (pi_zip3 hg hm ha.pa hs hpl) fun σ H Q ⟨ρ, S, F, st, o⟩ => ⟨ρ, S, F, st, (Out.bind o).mono fun ds _ q vs H' A s n r => by
    unfold zipR3 at q
    split at q
    · obtain ⟨v, w, u, rfl, h1, h2, h3⟩ := rds3 r
      cases h1 with
      | lst h r1 =>
        cases h2 with
        | lst h' r' =>
          cases h3 with
          | lst h'' r'' => exact ⟨_, _, _, _, _, _, rfl, (ext_h (st.sub.trans s) A).seq h, (ext_h (st.sub.trans s) A).seq h', (ext_h (st.sub.trans s) A).seq h'', q _ H' A s n (it_zip3 h r1 h' r' h'' r'')⟩
    · exact q.elim⟩⟩
end
end Vs

namespace L2
open PySem PySem.Spec PyProof.Rows
section
variable {X : Cx} {op : CmpOp} {r : R2} {pos : Pos}
/-! ### a <= b <= c <= .. -/
def tLinks (r : R2) : List TE → V → TE
  | [], _ => fun _ _ _ => False
  | [t], x => fun σ H Q => t σ H fun y H1 => r x y H1 Q
  | t :: t' :: ts, x => fun σ H Q => t σ H fun y H1 => r x y H1 fun z H2 => ∃ k, z = .bl k ∧ (if k = true then tLinks r (t' :: ts) y σ H2 Q else Q (.bl false) H2)
inductive PEs (X : Cx) : List Expr → List TE → Prop
  | nil : PEs X [] []
  | cons {e : Expr} {t : TE} {es : List Expr} {ts : List TE} (h : PE X e t) (hs : PEs X es ts) : PEs X (e :: es) (t :: ts)
theorem test_links (ho : OpR X (compareOp op) r) : ∀ {es : List Expr} {ts : List TE}, PEs X es ts → ∀ (pins : List (Addr × Obj)) (s : Shared) (σ : St) (H : Hp) (x : V) (v : Value) (Q : Bool → Hp → Prop), Inv X pins σ H s → RelV x v → tTest (tLinks r ts x) σ H Q →
    wpAny (model X.prog X.w) X.A (testChain pos v (es.map fun _ => op) (evalEach es X.env)) (TP X pins σ Q) X.xe s
  | _, _, .nil, pins, s, σ, H, x, v, Q, I, rv, h => h.elim
  | _, _, .cons he .nil, pins, s, σ, H, x, v, Q, I, rv, h => by
    refine test_last (thn (he.run pins s σ H _ I h) fun u s1 ⟨y, H1, I1, r1, q1⟩ => thn (ho pins s1 σ H1 x y v u _ I1 rv r1 q1) fun d s2 ⟨z, H2, I2, r2, k, e, q⟩ => ?_)
    subst e
    cases r2
    exact wpAny_truthy_bool ⟨H2, I2, q⟩
  | _, _, .cons he (.cons he' hs), pins, s, σ, H, x, v, Q, I, rv, h => by
    refine test_link (thn (he.run pins s σ H _ I h) fun u s1 ⟨y, H1, I1, r1, q1⟩ => thn (ho pins s1 σ H1 x y v u _ I1 rv r1 q1) fun d s2 ⟨z, H2, I2, r2, k, e, q⟩ => ?_)
    subst e
    cases r2
    refine wpAny_truthy_bool ?_
    cases k with
    | false =>
      obtain ⟨k', e', q'⟩ := q
      cases e'
      exact ite_ff ⟨H2, I2, q'⟩
    | true => exact ite_tt (test_links ho (.cons he' hs) pins s2 σ H2 y u Q I2 r1 q)
theorem pt_links {a b b' : Expr} {bs : List Expr} {ops : List CmpOp} {ta : TE} {ts : List TE} (ho : OpR X (compareOp op) r) (ha : PE X a ta) (hb : PEs X (b :: b' :: bs) ts) (hops : ops = bs.map fun _ => op)
    (hm : lastMarks (op :: op :: ops) (b :: b' :: bs) = false := by with_unfolding_all rfl) : PT X (.Compare a (op :: op :: ops) (b :: b' :: bs) pos) (tTest fun σ H Q => ta σ H fun x H1 => tLinks r ts x σ H1 Q) := by
  subst hops
  exact ⟨fun pins s σ H Q I h => isTrue_chain (thn (ha.run pins s σ H _ I h) fun v s1 ⟨x, H1, I1, r1, q1⟩ => test_links ho hb pins s1 σ H1 x v Q I1 r1 q1) hm⟩
end
end L2
namespace Vs
open PySem PySem.Spec PyProof.Rows L2
section
variable {X : Cx} {W : WX} {pos : Pos} {op : CmpOp} {r : R2} {gd : D → D → R D} {f : Env → R D} {a b b' : Expr} {bs : List Expr}
def chL (gd : D → D → R D) : List (Env → R D) → D → Env → R D
  | [], _, _ => .st
  | [f], x, ρ => (f ρ).bind fun y => gd x y
  | f :: f' :: fs, x, ρ => (f ρ).bind fun y => (gd x y).bind fun z => match z with
    | .bl true => chL gd (f' :: fs) y ρ
    | .bl false => .ok (.bl false)
    | _ => .st
def chN (gd : D → D → R D) (f : Env → R D) (fs : List (Env → R D)) (ρ : Env) : R D := (f ρ).bind fun x => chL gd fs x ρ
theorem tLinks_of (k : OpD X r gd) (n : NoEx2 gd) {σ : L2.St} {H : Hp} {ρ : Env} (re : REnv X.K ρ σ H) {Q : VK} : ∀ (fs : List (Env → R D)) (x : D) (v : V) (H1 : Hp), Same H H1 → Rd X.K H1 v x →
    Out X.mg W σ H (chL gd fs x ρ) (fun d => ∀ u H' A, Same H H' → Fu X.K H' u d A → (∀ a ∈ A, H a = none) → Q u H') → tLinks r (fs.map (tF X.K X.mg W)) v σ H1 Q
  | [], x, v, H1, s1, r1, o => o.elim
  | [f], x, v, H1, s1, r1, o => by
    refine ⟨ρ, re.mono s1, ((Out.bind o).up s1).mono fun e _ q t H4 s4 r4 => ?_⟩
    cases hz' : gd x e with
    | ok z' =>
      rw [hz'] at q
      exact k v t x e H4 Q z' (r1.mono s4) r4 hz' fun u H5 A s5 f5 n5 => q u H5 A ((s1.trans s4).trans s5) f5 fun a ha => (s1.trans s4).free (n5 a ha)
    | ex c => exact absurd hz' (n x e c)
    | st => rw [hz'] at q; exact q.elim
  | f :: f' :: fs, x, v, H1, s1, r1, o => by
    refine ⟨ρ, re.mono s1, ((Out.bind o).up s1).mono fun y _ q w H2 s2 r2 => ?_⟩
    have q := Out.bind q
    cases hz : gd x y with
    | ok z =>
      rw [hz] at q
      have q : Out X.mg W σ H (match z with | .bl true => chL gd (f' :: fs) y ρ | .bl false => .ok (.bl false) | _ => .st) _ := q
      refine k v w x y H2 _ z (r1.mono s2) r2 hz fun u H3 A s3 f3 n3 => ?_
      cases f3 with
      | bl b =>
        refine ⟨b, rfl, ?_⟩
        cases b with
        | true => exact tLinks_of k n re (f' :: fs) y w H3 ((s1.trans s2).trans s3) (r2.mono s3) q
        | false => exact q _ H3 [] ((s1.trans s2).trans s3) (.bl _) (fun _ h => nomatch h)
      | _ => exact q.elim
    | ex c => exact absurd hz (n x y c)
    | st => rw [hz] at q; exact q.elim
/-- the parts of a chain -/
structure VEl (X : Cx) (W : WX) (es : List Expr) (fs : List (Env → R D)) : Prop where
  ps : PEs X es (fs.map (tF X.K X.mg W))
theorem vel_nil : VEl X W [] [] := ⟨.nil⟩
theorem vel_cons {e : Expr} {es : List Expr} {f : Env → R D} {fs : List (Env → R D)} (h : VE X W e f) (hs : VEl X W es fs) : VEl X W (e :: es) (f :: fs) := ⟨.cons h.pe hs.ps⟩
theorem vt_chN {ops : List CmpOp} {fs : List (Env → R D)} (ho : OpR X (compareOp op) r) (k : OpD X r gd) (n : NoEx2 gd) (ha : VE X W a f) (hb : VEl X W (b :: b' :: bs) fs) (hops : ops = bs.map fun _ => op)
    (hm : lastMarks (op :: op :: ops) (b :: b' :: bs) = false := by with_unfolding_all rfl) : VT X W (.Compare a (op :: op :: ops) (b :: b' :: bs) pos) (boolR (chN gd f fs)) :=
  ⟨ptW (pt_links ho ha.pe hb.ps hops hm) fun σ H Q ⟨ρ, re, o⟩ =>
    ⟨ρ, re, (Out.bind (boolR_out o)).mono fun x _ q v H1 s1 r1 => tLinks_of k n re fs x v H1 s1 r1 (q.mono fun d _ ⟨kk, e, q⟩ u H5 A s5 f5 n5 => by subst e; cases f5; exact ⟨kk, rfl, q H5 s5⟩)⟩⟩
end
end Vs

namespace Vs
open PySem PySem.Spec PyProof.Rows L2
/-! ### x = a part of something: from here on no slot owns -/
section
variable {X : Cx} {W : WX} {own : List Nat} {ol : Ol} {e : Expr} {f : Env → R D} {pos : Pos} {K : PySem.W.Frag} {H : Hp} {ρ : Env} {σ : L2.St}
theorem stx_nil {v : V} {d : D} (h : REnv K ρ σ H) (r : Rd K H v d) (i : Nat) : Stx [] K H (fun _ => []) (ρ.set i (some d)) (σ.set i (some v)) H := by
  refine ⟨by rw [List.length_set, List.length_set]; exact h.len, fun _ _ e => e, fun a o e _ => e, fun j e q => ?_, fun _ m => (nomatch m), fun _ m => (nomatch m)⟩
  rcases get_set q with ⟨rfl, e1, hl⟩ | ⟨ne, q⟩
  · cases e1
    exact ⟨v, by rw [List.getElem?_set_self (by rw [← h.len]; exact hl)], fun m => (nomatch m), fun _ => r⟩
  · obtain ⟨u, h1, h2⟩ := h.val j e q
    exact ⟨u, by rw [List.getElem?_set_ne (Ne.symm ne)]; exact h1, fun m => (nomatch m), fun _ => h2⟩
theorem vs_shr (i : Nat) {x : Str} {pos' : Pos} (hN : X.N.Nodup) (hi : X.N[i]? = some x) (hx : Loc X.env.scope x) (he : VE X W e f) (hs : swapsWith e (some (.Name x pos')) pos.line X.env = pure false := by rfl) (hf : X.fn x = true ∨ X.env.scope.names.lookup x = some .local := by first | exact .inl rfl | exact .inr rfl | assumption) (we : ∀ i ∈ ol.e, i ∈ own := by first | decide | (dsimp only; decide)) (hp : ol.P i = none := by rfl) :
    VS X W own [] ol (.Assign [.Name x pos'] e pos) (asgS i f) := ⟨psW (ps_set hN hi hx he.pe hs hf) fun D σ H ⟨B, ρ, x, pn, q⟩ => ⟨ρ, x.env, (SEnd.out x pn we q).mono fun d _ q v H' s r =>
  q _ _ ⟨H', fun _ => [], x.base.trans s, stx_nil (x.env.mono s) r i⟩ (pn.set hp)⟩⟩
end
end Vs

namespace L2
open PySem PySem.Spec PyProof.Rows
/-! ### a dict of the module: is a text a key of it -/
def KHas (K : PySem.W.Frag) (w : World) (a : Addr) (x : Str) (b : Bool) : Prop := ∃ es n r, K.lookup a = some ⟨.type "dict", none, .dict es n, #[]⟩ ∧ PySem.W.KeysLit w.params es.toList ∧ (a == sysModules) = false ∧ PySem.W.nsIn K a x = some r ∧ r.isSome = b
def tKHas (K : PySem.W.Frag) (w : World) (neg : Bool) (ty td : TE) : TE := fun σ H Q => ty σ H fun y H1 => td σ H1 fun x H2 => ∃ (p : Addr) (z : Str) (b : Bool), x = .ref p ∧ y = .str z ∧ KHas K w p z b ∧ Q (.bl (if neg then !b else b)) H2
section
variable {X : Cx} {i o : Expr} {ty td : TE}
theorem pc_knin (hi : PE X i ty) (ho : PE X o td) : PC X .NotIn i o (tKHas X.K X.w true ty td) := by
  refine ⟨fun pins s σ H Q I h => ?_⟩
  refine thn (hi.run pins s σ H _ I h) fun iv s1 ⟨y, H1, I1, ry, q1⟩ => thn (ho.run pins s1 σ H1 _ I1 q1) fun u s2 ⟨x, H2, I2, rx, p, z, b, ex, ey, ⟨es, n, r, hl, hk, low, e, eb⟩, q2⟩ => ?_
  subst ex ey eb
  obtain rfl : u = Value.ref p := rx
  obtain ⟨t, rfl⟩ := (show ∃ t, iv = Value.str z t from ry)
  have hm := PySem.W.mapOf_K (prog := X.prog) (w := X.w) I2.kIn hl hk
  refine wpAny_notIn_of (strKind_is X.prog X.w z t) low hm ?_
  rw [PySem.W.find_K hl e]
  exact ⟨.bl (!r.isSome), H2, I2.tok _, rfl, q2⟩
end
end L2
namespace Vs
open PySem PySem.Spec PyProof.Rows L2
section
variable {X : Cx} {W : WX} {a b : Expr} {f g : Env → R D} {pos : Pos} {name : Str} {tb : List (Str × D)}
/-- the dict of the module that has this name: its texts and what they stand for -/
def KdM (K : PySem.W.Frag) (w : World) (name : Str) (tb : List (Str × D)) : Prop := ∀ p, NameK K name p → (∀ z, KHas K w p z (tb.lookup z).isSome) ∧ ∀ z d, tb.lookup z = some d → ∃ v, KDct K w p z v ∧ ∀ H, Rd K H v d
def kninD (name : Str) (tb : List (Str × D)) (k d : D) : R D := match k, d with
  | .str z, .fn x => if x = name then .ok (.bl (!(tb.lookup z).isSome)) else .st
  | _, _ => .st
def kixD (name : Str) (tb : List (Str × D)) (d k : D) : R D := match d, k with
  | .fn x, .str z => if x = name then (match tb.lookup z with | some e => .ok e | none => .st) else .st
  | _, _ => .st
theorem tKn_of (T : KdM X.K X.w name tb) {σ : L2.St} {H : Hp} {Q : VK} (q : tG X.K X.mg W (op2 (kninD name tb) f g) σ H Q) : tKHas X.K X.w true (tF X.K X.mg W f) (tF X.K X.mg W g) σ H Q := by
  obtain ⟨ρ, re, o⟩ := q
  refine ⟨ρ, re, (Out.bind o).mono fun k _ q0 v H1 s1 r1 => ⟨ρ, re.mono s1, ((Out.bind q0).up s1).mono fun d _ q w H2 s2 r2 => ?_⟩⟩
  clear q0
  unfold kninD at q
  split at q
  · split at q
    · rename_i e
      subst e
      cases r1
      cases r2 with
      | fn hN => exact ⟨_, _, _, rfl, rfl, (T _ hN).1 _, q _ H2 [] (s1.trans s2) (.bl _) (fun _ h => nomatch h)⟩
    · exact q.elim
  · exact q.elim
theorem ve_kix (T : KdM X.K X.w name tb) (ha : VE X W a f) (hb : VE X W b g) (hs : PlainIx b) : VE X W (.Subscript a b pos) (op2 (kixD name tb) f g) :=
  ⟨peW (pe_ix ix_kdict ha.pe hb.pe hs) fun σ H Q ⟨ρ, re, o⟩ => ⟨ρ, re, (Out.bind o).mono fun d _ q0 v H1 s1 r1 => ⟨ρ, re.mono s1, ((Out.bind q0).up s1).mono fun e _ q w H2 s2 r2 => by
    clear q0
    unfold kixD at q
    split at q
    · split at q
      · rename_i e0
        subst e0
        split at q
        · rename_i e1
          cases r1 with
          | fn hN =>
            cases r2
            obtain ⟨u, k1, k2⟩ := (T _ hN).2 _ _ e1
            exact ⟨_, _, u, rfl, rfl, k1, q u H2 (s1.trans s2) (k2 H2)⟩
        · exact q.elim
      · exact q.elim
    · exact q.elim⟩⟩⟩
theorem vt_knin (T : KdM X.K X.w name tb) (ha : VE X W a f) (hb : VE X W b g) (hm : behindInMarks .NotIn b = false) : VT X W (.Compare a [.NotIn] [b] pos) (boolR (op2 (kninD name tb) f g)) :=
  ⟨ptW (pt_cmp (pc_knin ha.pe hb.pe) hm) fun σ H Q ⟨ρ, re, o⟩ => tKn_of (Q := fun v H' => ∃ k, v = .bl k ∧ Q k H') T ⟨ρ, re, (boolR_out o).mono fun d _ ⟨k, e, q⟩ v H1 A s1 f1 n1 => by subst e; cases f1; exact ⟨k, rfl, q H1 s1⟩⟩⟩
end
/-! ### what stands in the program's own part -/
def RdK (K : PySem.W.Frag) (u : Value) (d : D) : Prop := ∃ v, RelV v u ∧ ∀ H, Rd K H v d
def RdsK (K : PySem.W.Frag) (l : List Value) (ds : List D) : Prop := ∃ vs, Vals vs l ∧ ∀ H, Rds K H vs ds
theorem rdK_int {K : PySem.W.Frag} {i : Int} {t : Tok} : RdK K (.int i t) (.int i) := ⟨.int i, ⟨t, rfl⟩, fun _ => .int i⟩
theorem rdsK_nil {K : PySem.W.Frag} : RdsK K [] [] := ⟨[], .nil, fun _ => .nil⟩
theorem rdsK_cons {K : PySem.W.Frag} {u : Value} {l : List Value} {d : D} {ds : List D} (h : RdK K u d) (r : RdsK K l ds) : RdsK K (u :: l) (d :: ds) := by
  obtain ⟨v, h1, h2⟩ := h
  obtain ⟨vs, r1, r2⟩ := r
  exact ⟨v :: vs, .cons h1 r1, fun H => .cons (h2 H) (r2 H)⟩
theorem rdK_tup {K : PySem.W.Frag} {a : Addr} {od : Option Addr} {its : Array Value} {n : Nat} {sl : Array (Option Value)} {ds : List D} (h : K.lookup a = some ⟨.type "tuple", od, .seq its n, sl⟩) (r : RdsK K its.toList ds) (hs : ds.length ≤ sizeLine := by decide) (ne : ds.length ≠ 2 := by decide) : RdK K (.ref a) (.tup ds) := by
  obtain ⟨vs, r1, r2⟩ := r
  have e : its.size = vs.length := by rw [r1.length, Array.length_toList]
  have e2 : vs.length = ds.length := (r2 (fun _ => none)).length
  exact ⟨.ref a, rfl, fun H => .tup (.inr ⟨_, its, n, h, rfl, rfl, by rw [e, e2]; exact hs, r1, .inl (by rw [e2]; exact ne)⟩) (r2 H)⟩
/-- a pair whose first part is no key -/
theorem rdK_tup2 {K : PySem.W.Frag} {a b : Addr} {od : Option Addr} {its : Array Value} {n : Nat} {sl : Array (Option Value)} {d : D} {ds : List D} (h : K.lookup a = some ⟨.type "tuple", od, .seq its n, sl⟩) (h0 : its.toList.head? = some (.ref b)) (r : RdsK K its.toList ds) (hs : ds.length ≤ sizeLine := by decide) : RdK K (.ref a) (.tup ds) := by
  obtain ⟨vs, r1, r2⟩ := r
  have e : its.size = vs.length := by rw [r1.length, Array.length_toList]
  have e2 : vs.length = ds.length := (r2 (fun _ => none)).length
  refine ⟨.ref a, rfl, fun H => .tup (.inr ⟨_, its, n, h, rfl, rfl, by rw [e, e2]; exact hs, r1, .inr ?_⟩) (r2 H)⟩
  generalize its.toList = l at r1 h0
  cases r1 with
  | nil => cases h0
  | @cons v u vs l h r =>
    cases h0
    cases v with
    | ref c => exact ⟨c, List.mem_cons_self⟩
    | non => cases h
    | bl _ => cases h
    | int _ => obtain ⟨_, h⟩ := h; cases h
    | str _ => obtain ⟨_, h⟩ := h; cases h
    | byt _ => obtain ⟨_, h⟩ := h; cases h
    | flt _ => obtain ⟨_, h⟩ := h; cases h
    | ty _ => cases h
inductive KRow (K : PySem.W.Frag) (P : Params) : List DictEntry → List (Str × D) → Prop
  | nil : KRow K P [] []
  | cons {e : DictEntry} {x : Str} {t : Tok} {d : D} {r : List DictEntry} {tb : List (Str × D)} : e.key = .str x t → e.hash = PyData.keyHash P x → RdK K e.val d → KRow K P r tb → KRow K P (e :: r) ((x, d) :: tb)
theorem KRow.lit {K : PySem.W.Frag} {P : Params} {es : List DictEntry} {tb : List (Str × D)} (h : KRow K P es tb) : PySem.W.KeysLit P es := by
  induction h with
  | nil => trivial
  | cons h1 h2 _ _ ih => exact ⟨⟨_, _, h1, h2⟩, ih⟩
theorem KRow.find {K : PySem.W.Frag} {P : Params} {es : List DictEntry} {tb : List (Str × D)} (h : KRow K P es tb) (z : Str) : es.any (·.refKey) = false ∧ match es.find? (·.key.isStr z), tb.lookup z with
    | some e, some d => RdK K e.val d
    | none, none => True
    | _, _ => False := by
  induction h with
  | nil => exact ⟨rfl, trivial⟩
  | @cons e x t d r tb h1 h2 h3 _ ih =>
    refine ⟨?_, ?_⟩
    · rw [List.any_cons, ih.1, Bool.or_false]
      unfold DictEntry.refKey
      rw [h1]
    · have hk : e.key.isStr z = (x == z) := by rw [h1]; rfl
      rw [List.find?_cons, List.lookup_cons, hk]
      by_cases q : z = x
      · subst q
        rw [beq_self_eq_true]
        exact h3
      · rw [beq_eq_false_iff_ne.mpr q, beq_eq_false_iff_ne.mpr (Ne.symm q)]
        exact ih.2
def KdK (K : PySem.W.Frag) (w : World) (name : Str) (tb : List (Str × D)) : Prop := ∃ p es n, PySem.W.nsIn K mainGlobals name = some (some (.ref p)) ∧ K.lookup p = some ⟨.type "dict", none, .dict es n, #[]⟩ ∧ KRow K w.params es.toList tb ∧ (p == sysModules) = false
theorem kdK_mk {K : PySem.W.Frag} {w : World} {name : Str} {tb : List (Str × D)} {p : Addr} {es : Array DictEntry} {n : Nat} (a : PySem.W.nsIn K mainGlobals name = some (some (.ref p))) (b : K.lookup p = some ⟨.type "dict", none, .dict es n, #[]⟩) (c : KRow K w.params es.toList tb) (d : (p == sysModules) = false) : KdK K w name tb := ⟨p, es, n, a, b, c, d⟩
theorem kdM_of {K : PySem.W.Frag} {w : World} {name : Str} {tb : List (Str × D)} (h : KdK K w name tb) : KdM K w name tb := by
  obtain ⟨p, es, n, h1, h2, h3, h4⟩ := h
  intro q hq
  unfold NameK at hq
  rw [h1] at hq
  cases hq
  have ns : ∀ z, PySem.W.nsIn K p z = match es.toList.find? (·.key.isStr z) with | some e => some (some e.val) | none => some none := fun z => by
    unfold PySem.W.nsIn
    rw [h2]
    simp only
    rw [(h3.find z).1]
    rfl
  refine ⟨fun z => ?_, fun z d hd => ?_⟩
  · have h5 := (h3.find z).2
    have h6 := ns z
    cases e1 : es.toList.find? (·.key.isStr z) with
    | none =>
      rw [e1] at h5 h6
      cases e2 : tb.lookup z with
      | none => exact ⟨es, n, none, h2, h3.lit, h4, h6, rfl⟩
      | some d => rw [e2] at h5; exact h5.elim
    | some e =>
      rw [e1] at h5 h6
      cases e2 : tb.lookup z with
      | none => rw [e2] at h5; exact h5.elim
      | some d => exact ⟨es, n, _, h2, h3.lit, h4, h6, rfl⟩
  · have h5 := (h3.find z).2
    have h6 := ns z
    rw [hd] at h5
    cases e1 : es.toList.find? (·.key.isStr z) with
    | none => rw [e1] at h5; exact h5.elim
    | some e =>
      rw [e1] at h5 h6
      obtain ⟨v, r1, r2⟩ := h5
      exact ⟨v, ⟨es, n, _, h2, h3.lit, h6, r1⟩, r2⟩
theorem kdFn_of {K : PySem.W.Frag} {w : World} {h : Heap} {mg : Str → Option Value} {name : Str} {tb : List (Str × D)} (X : K.In h) (G : h.Ns mainGlobals mg) (d : KdK K w name tb) : FnM K mg name := by
  obtain ⟨p, es, n, h1, _⟩ := d
  exact ⟨p, PySem.W.mg_of X G h1, h1⟩
end Vs

namespace Vs
open PySem PySem.Spec PyProof.Rows L2

/-! ### x in a list or tuple of flat things -/
def flatD : D → Bool
  | .non => true
  | .bl _ => true
  | .int _ => true
  | .str _ => true
  | .lst _ => false
  | .fz _ => false
  | .tup _ => false
  | .dic _ _ _ => false
  | .fn _ => false
  | .exc _ _ => false
  | .obj _ _ _ => false
def vD : D → V
  | .bl b => .bl b
  | .int i => .int i
  | .str x => .str x
  | _ => .non
def itemsO : D → Option (List D)
  | .lst xs => some xs
  | .tup xs => some xs
  | _ => none
def inSeqD (neg : Bool) (k d : D) : R D := match itemsO d with
  | some xs => if flatD k = true ∧ xs.all flatD = true then .ok (.bl (if neg then !inV (vD k) (xs.map vD) else inV (vD k) (xs.map vD))) else .st
  | none => .st
theorem rd_flat {K : PySem.W.Frag} {H : Hp} {v : V} {d : D} (r : Rd K H v d) (f : flatD d = true) : v = vD d ∧ flatV v = true := by
  cases r <;> first | exact ⟨rfl, rfl⟩ | cases f
theorem rds_flat {K : PySem.W.Frag} {H : Hp} : ∀ {vs : List V} {ds : List D}, Rds K H vs ds → ds.all flatD = true → vs = ds.map vD ∧ vs.all flatV = true
  | _, _, .nil, _ => ⟨rfl, rfl⟩
  | _, _, .cons h r, f => by
    rw [List.all_cons, Bool.and_eq_true] at f
    obtain ⟨e1, f1⟩ := rd_flat h f.1
    obtain ⟨e2, f2⟩ := rds_flat r f.2
    exact ⟨by rw [List.map_cons, ← e1, ← e2], by rw [List.all_cons, f1, f2]; rfl⟩
theorem nx_inSeq {neg : Bool} : NoEx2 (inSeqD neg) := fun d e c h => by
  unfold inSeqD at h
  split at h
  · split at h <;> cases h
  · cases h
section
variable {X : Cx}
theorem d_inSeq {neg : Bool} : OpD X (rIn X.K neg) (inSeqD neg) := fun x y d e H Q z rx ry h q => by
  unfold inSeqD at h
  cases he : itemsO e with
  | none => rw [he] at h; cases h
  | some xs =>
    rw [he] at h
    simp only at h
    split at h
    · rename_i c
      cases h
      obtain ⟨e1, f1⟩ := rd_flat rx c.1
      cases e with
      | lst ys =>
        cases he
        cases ry with
        | lst h2 r2 =>
          obtain ⟨e2, f2⟩ := rds_flat r2 c.2
          subst e1
          subst e2
          exact ⟨_, _, rfl, .inl h2, f1, f2, q _ H [] (Same.refl H) (.bl _) (fun _ h => nomatch h)⟩
      | tup ys =>
        cases he
        cases ry with
        | tup h2 r2 =>
          obtain ⟨e2, f2⟩ := rds_flat r2 c.2
          subst e1
          subst e2
          exact ⟨_, _, rfl, .inr h2.sq, f1, f2, q _ H [] (Same.refl H) (.bl _) (fun _ h => nomatch h)⟩
      | _ => cases he
    · cases h
end

/-! ### s.ljust(n, c) -/
def ljustA (a : Str) : List D → R D
  | [.int i, .str z] => if PadOk i = true ∧ z.length = 1 then .ok (.str (Txt.ljustF a i (z.cps.getD 0 0))) else .st
  | _ => .st
def ljustE (f : Env → R D) (fs : Env → R (List D)) (ρ : Env) : R D := (f ρ).bind fun d => match d with
  | .str a => (fs ρ).bind (ljustA a)
  | _ => .st
section
variable {X : Cx} {W : WX} {o e c : Expr} {f : Env → R D} {fs : Env → R (List D)} {apos pos : Pos}
theorem mt_ljustF : MtR X "str.ljust" (fun x xs H Q => ∃ (a : Str) (i : Int) (z : Str), x = .str a ∧ xs = [.int i, .str z] ∧ PadOk i = true ∧ z.length = 1 ∧ Q (.str (Txt.ljustF a i (z.cps.getD 0 0))) H) := by
  intro pins s σ H x xs v us Q I rx rs q
  obtain ⟨a, i, z, rfl, rfl, hp, hz, q⟩ := q
  obtain ⟨t, rfl⟩ := rx
  cases rs with
  | cons r1 rs =>
    cases rs with
    | cons r2 rs =>
      cases rs
      obtain ⟨u, rfl⟩ := r1
      obtain ⟨y, rfl⟩ := r2
      exact ljust_fill hp hz fun t' k => ⟨.str _, H, I.tok k, ⟨t', rfl⟩, q⟩
theorem vg_ljust (ho : VE X W o f) (ha : VA X W [e, c] fs)
    (hbase : attributeBase o "ljust" X.env (eval o X.env) = eval o X.env := by rfl)
    (hfew : ((backTo pos (starEach [e, c] X.env)).all (fun x => !x.1) && (backToKw pos (keywordEach [] X.env)).all (fun x => x.1.isSome)
      && decide (([e, c]).length + ([] : List Keyword).length + (if ([] : List Keyword).isEmpty then 0 else 1) < 30)) = true := by rfl)
    (hline : (apos.endLine == pos.line) = true := by rfl) (hs : starEach [e, c] X.env = (false, eval e X.env) :: starEach [c] X.env := by rfl) (hplain : (backTo pos (starEach [c] X.env)).any (·.1) = false := by rfl) :
    VG X W (.Call (.Attribute o "ljust" apos) [e, c] [] pos) (ljustE f fs) :=
  ⟨peW (pe_bm PySem.F.plainAttrs_str PySem.F.slot_str_ljust PySem.F.type_str_ljust mt_ljustF ho.pe ha.pa hbase hfew hline hs hplain) fun σ H Q ⟨ρ, re, q⟩ => ⟨ρ, re, (Out.bind q).mono fun d _ q v H1 s1 r1 => by
    cases d with
    | str a =>
      cases r1
      refine ⟨rfl, ρ, re.mono s1, ((Out.bind (show Out X.mg W σ H ((fs ρ).bind (ljustA a)) _ from q)).up s1).mono fun ds _ q w H2 s2 r2 => ?_⟩
      unfold ljustA at q
      split at q
      · split at q
        · rename_i i z _ hc
          obtain ⟨u1, u2, rfl, k1, k2⟩ := rds2 r2
          cases k1
          cases k2
          exact ⟨a, i, z, rfl, rfl, hc.1, hc.2, q _ H2 [] (s1.trans s2) (.str _) (fun _ h => nomatch h)⟩
        · exact q.elim
      · exact q.elim
    | _ => exact q.elim⟩⟩
end

/-! ### ord(c), s.upper() -/
def ordD : List D → R D
  | [.str x] => if x.length = 1 then .ok (.int (x.cps.getD 0 0 : Nat)) else .st
  | _ => .st
theorem nx_ord : NoEx1 ordD := fun ds c h => by unfold ordD at h; split at h <;> first | cases h | (split at h <;> cases h)
theorem cb_ord {X : Cx} : CbD X (fun xs H Q => ∃ x, xs = [.str x] ∧ x.length = 1 ∧ Q (.int (x.cps.getD 0 0 : Nat)) H) ordD := fun vs ds H Q z r h q => by
  unfold ordD at h
  split at h
  · obtain ⟨v, rfl, h1⟩ := rds1 r
    split at h
    · rename_i c
      cases h
      cases h1
      exact ⟨_, rfl, c, q _ H [] (Same.refl H) (.int _) (fun _ h => nomatch h)⟩
    · cases h
  · cases h
def upperG (a : Str) : R D := if a.length ≤ 5592405 then .ok (.str (Txt.upper a)) else .st
theorem vg_upper {X : Cx} {W : WX} {o : Expr} {f : Env → R D} {apos pos : Pos} (ho : VE X W o f) (hbase : attributeBase o "upper" X.env (eval o X.env) = eval o X.env := by rfl) (hline : (apos.endLine == pos.line) = true := by rfl) :
    VG X W (.Call (.Attribute o "upper" apos) [] [] pos) (m0E upperG f) :=
  ⟨peW (pe_upper ho.pe hbase hline) fun σ H Q ⟨ρ, re, q⟩ => ⟨ρ, re, (Out.bind q).mono fun d _ q v H1 s1 r1 => by
    cases d with
    | str a =>
      cases r1
      refine ⟨⟨a, rfl⟩, ?_⟩
      have q : Out X.mg W σ H (upperG a) _ := q
      unfold upperG at q
      by_cases c : a.length ≤ 5592405
      · rw [if_pos c] at q
        exact ⟨a, rfl, rfl, c, q _ H1 [] s1 (.str _) (fun _ h => nomatch h)⟩
      · rw [if_neg c] at q
        exact q.elim
    | _ => exact q.elim⟩⟩
end Vs

namespace Vs
open PySem PySem.Spec PyProof.Rows L2

/-! ### x.append(y): y's list is handed over -/
def appM (i j : Nat) (ρ : Env) : Sr := match ρ[i]?, ρ[j]? with
  | some (some (.lst ds)), some (some d) => if ds.length < sizeLine then .nx ((ρ.set j none).set i (some (.lst (ds ++ [d])))) else .st
  | _, _ => .st
theorem vs_appendM {X : Cx} {W : WX} {own own' : List Nat} {ol : Ol} {st : Stmt} (i j : Nat) (p : PS X st (tDrop (tBM X.K "list" rAppend (tVar i) (tCons (tVar j) tNil)))) (hij : i ≠ j := by decide) (hi : i ∈ own := by decide) (hj : j ∈ own := by decide)
    (w : own' = own.filter (fun k => decide (k ≠ j)) := by rfl) : VS X W own own' ol st (appM i j) := ⟨psW p fun D σ H ⟨B, ρ, x, pn, q⟩ => by
  unfold appM at q
  split at q
  · rename_i ds d ei ej
    by_cases hz : ds.length < sizeLine
    rotate_left
    · rw [if_neg hz] at q; exact q.elim
    rw [if_pos hz] at q
    obtain ⟨S, F, b, y⟩ := x
    obtain ⟨v, h1, h2, _⟩ := y.val i _ ei
    obtain ⟨u, g1, g2, _⟩ := y.val j _ ej
    obtain ⟨pa, vs, A', rfl, eF, hp, r, n⟩ := (h2 hi).list
    have fj := g2 hj
    refine ⟨_, h1, .inl ⟨rfl, _, .inl (.inl hp)⟩, u, g1, pa, vs, u, rfl, rfl, hp, by rw [r.length]; exact hz, ?_⟩
    have w2 : ∀ k, k ∈ own' ↔ k ∈ own ∧ k ≠ j := fun k => by rw [w, List.mem_filter, decide_eq_true_eq]
    have y1 : Stx own' X.K S F (ρ.set j none) σ H := y.drop w2
    have mp : pa ∈ F i := by rw [eF]; exact List.mem_cons_self
    have hpq : ∃ o, H pa = some o ∧ ¬ Stt o := ⟨_, hp, fun z => (show False from z)⟩
    have hi' : i ∈ own' := (w2 i).mpr ⟨hi, hij⟩
    have r1 : Fus X.K H (vs ++ [u]) (ds ++ [d]) (A' ++ (F j ++ [])) := r.app (.cons fj .nil fun _ _ z => nomatch z) fun a ha hb => by
      rw [List.append_nil] at hb
      exact y.dis i hi j hj hij a (by rw [eF]; exact List.mem_cons_of_mem _ ha) hb
    rw [List.append_nil] at r1
    have n2 : pa ∉ A' ++ F j := fun z => (List.mem_append.mp z).elim n fun z => y.dis i hi j hj hij pa mp z
    refine q _ _ ⟨_, _, b, y1.mut hi' h1 hpq (y.out i hi pa mp).1 (fun k m ne z => y.dis k ((w2 k).mp m).1 i hi ne pa z mp) (fun z => (show False from z)) (fu_relist hpq r1 n2) fun a ha => ?_⟩ pn
    have old : ∀ a, a ∈ F i → S a = none ∧ ∀ k ∈ own', k ≠ i → a ∉ F k := fun a hm => ⟨(y.out i hi a hm).1, fun k m ne z' => y.dis k ((w2 k).mp m).1 i hi ne a z' hm⟩
    rcases List.mem_cons.mp ha with z | z
    · rw [z]
      exact old pa mp
    · rcases List.mem_append.mp z with z | z
      · exact old a (by rw [eF]; exact List.mem_cons_of_mem _ z)
      · exact ⟨(y.out j hj a z).1, fun k m ne z' => y.dis k ((w2 k).mp m).1 j hj ((w2 k).mp m).2 a z' z⟩
  · exact q.elim⟩
end Vs

namespace L2
open PySem PySem.Spec PyProof.Rows
section
variable {P : Program} {w : World} {K : PySem.W.Frag}
/-- a tuple at a and a list at b as they stand at each turn, the items in new pairs -/
def Itm (K : PySem.W.Frag) (a b : Addr) : It :=
  ⟨fun i H => ∃ (xs ys : List V) (x y : V), SqT K H a xs ∧ SqL K H b ys ∧ xs[i]? = some x ∧ ys[i]? = some y,
    fun i H v H' => ∃ T x y, v = .ref T ∧ H T = none ∧ H' = upd H T (.tup [x, y]) ∧ (∀ xs, SqT K H a xs → xs[i]? = some x) ∧ ∀ ys, SqL K H b ys → ys[i]? = some y,
    fun i H => ∃ xs ys : List V, SqT K H a xs ∧ SqL K H b ys ∧ (xs.length ≤ i ∨ ys.length ≤ i)⟩
/-- what a tuple's iterator draws at the place where it stands, perhaps behind the end -/
theorem draws_atT {A : Around} (hh : A.handled = none) (it l : Addr) (hne : l ≠ it) (items : Array Value) (i : Nat) (h : Heap) (hit : h.IsTupleIter it l i) (hl : h.IsTuple l items) :
    ∃ (n : Nat) (Pd : Nat → Value → Prop) (St : Nat → Heap → Prop), Draws P w A it [it, l] n Pd St ∧ St i h ∧ i ≤ n ∧ (items.size ≤ i → i = n) := by
  by_cases q : i < items.size
  · exact ⟨_, _, _, Draws.tuple hh it l hne items, ⟨hit, hl⟩, Nat.le_of_lt q, fun z => by omega⟩
  · refine ⟨i, fun _ _ => True, fun j h => j = i ∧ h.IsTupleIter it l i ∧ h.IsTuple l items, ⟨?_, ?_, ?_, ?_⟩, ⟨rfl, hit, hl⟩, Nat.le_refl _, fun _ => rfl⟩
    · exact fun _ _ st => let ⟨o, ho, _⟩ := st.2.1; ⟨o, ho⟩
    · exact fun _ _ _ st hk => ⟨st.1, st.2.1.at fun o e => hk it (by simp) o e, st.2.2.at fun o e => hk l (by simp) o e⟩
    · exact fun j s Q E hi st hQ => absurd st.1 (Nat.ne_of_lt hi)
    · exact fun s Q E st hE => wpAny_nextOf_tuple_end hh st.2.1 st.2.2 (by simp; omega) hE
theorem turn_zipM {elts : List Expr} {kk : Nat} {tpos : Pos} {a b z TI TO i1 i2 : Addr} (D : ZipSep2 z TI TO i1 i2 [i1, a] [i2, b]) (na : a ≠ i1) (nb : b ≠ i2) :
    Turn P w K (.Tuple elts kk tpos) (Itm K a b) [z, TI, TO, i1, i2] z (fun i h => IsZip h z TI TO .none ∧ IsTupOf2 h TI (.ref i1) (.ref i2) ∧ (∃ x y, IsTupOf2 h TO x y) ∧ h.IsTupleIter i1 a i ∧ h.IsListIter i2 b i) where
  mem := by simp
  obj := fun i h st d hd => by
    obtain ⟨hz, hTI, ⟨x, y, hTO⟩, ⟨o1, e1, _, d1⟩, ⟨o2, e2, _, d2⟩⟩ := st
    have e' : d = z ∨ d = TI ∨ d = TO ∨ d = i1 ∨ d = i2 := by simpa using hd
    rcases e' with q | q | q | q | q
    · rw [q]; exact ⟨_, hz, fun v q => nomatch q⟩
    · rw [q]; exact ⟨_, hTI, fun v q => nomatch q⟩
    · rw [q]; exact ⟨_, hTO, fun v q => nomatch q⟩
    · rw [q]; exact ⟨o1, e1, fun v q => by rw [d1] at q; cases q⟩
    · rw [q]; exact ⟨o2, e2, fun v q => by rw [d2] at q; cases q⟩
  keep := fun i h h' st k => by
    obtain ⟨hz, hTI, ⟨x, y, hTO⟩, h1, h2⟩ := st
    exact ⟨k z (by simp) _ hz, k TI (by simp) _ hTI, ⟨x, y, k TO (by simp) _ hTO⟩, h1.at fun o q => k i1 (by simp) o q, h2.at fun o q => k i2 (by simp) o q⟩
  item := by
    intro X hP hw hK hc i pins s σ H E I hf st hg
    subst hP hw hK
    obtain ⟨hz, hTI, ⟨x0, y0, hTO⟩, h1, h2⟩ := st
    obtain ⟨xs, ys, x, y, hqx, hqy, hx, hy⟩ := hg
    obtain ⟨its, rv, p, _⟩ := I.tuple hqx
    obtain ⟨its2, rv2, p2, _⟩ := I.list hqy
    obtain ⟨v1, hv1, r1⟩ := rv.get hx
    obtain ⟨v2, hv2, r2⟩ := rv2.get hy
    have hzl : z < s.heap.objs.size := Heap.lt_size hz
    have hh : X.A.in1.handled = none := I.ok.hd hc
    have l1 : i < its.toArray.size := by have := (List.getElem?_eq_some_iff.mp hv1).1; simpa using this
    have l2 : i < its2.toArray.size := by have := (List.getElem?_eq_some_iff.mp hv2).1; simpa using this
    refine wpAny_pyNext_zipD2_item D (Draws.tuple hh i1 a na its.toArray) (Draws.list hh i2 b nb its2.toArray) hz hTI hTO ⟨h1, p⟩ ⟨h2, p2.isList⟩ l1 l2 fun w1 w2 h' tk e1 e2 z' TO' d1 d2 hT hsz hk => ?_
    have e1 : v1 = w1 := by simpa [hv1] using e1
    have e2 : v2 = w2 := by simpa [hv2] using e2
    subst e1 e2
    refine ⟨_, rfl, wpAny_letOwnedTupleGo_zip (s := { s with heap := h', toks := tk }) z' fun h'' z'' sb => ?_⟩
    have hT2 : h''.get? s.heap.objs.size = some { cls := .type "tuple", data := .seq #[v1, v2] } := (sb.2 _ (Nat.ne_of_gt hzl)).trans hT
    have new : ObjOk X.prog X.w (upd H s.heap.objs.size (.tup [x, y])) h'' s.heap.objs.size (.tup [x, y]) :=
      ⟨by show 2 ≤ sizeLine; decide, [v1, v2], .cons r1 (.cons r2 .nil), ⟨_, hT2, rfl, _, rfl⟩⟩
    have I1 : Inv X pins σ (upd H s.heap.objs.size (.tup [x, y])) { s with heap := h'', toks := tk } :=
      I.turnedNew (t' := tk) (ch := [z, TI, TO, i1, i2]) (fun d o hb q => (sb.2 d (fun q' => hb (by simp [q']))).trans (hk d o (fun q' => hb (by simp [q'])) (fun q' => hb (by simp [q'])) (fun q' => hb (by simp [q'])) (fun q' => hb (by simp [q'])) q)) hf (Nat.le_refl _) new
    refine ⟨.ref s.heap.objs.size, _, I1, rfl, ⟨_, x, y, rfl, I.hok.fresh (Nat.le_refl _), rfl, fun l hl => by rw [I.tuple_inj hl hqx]; exact hx, fun l hl => by rw [I.list_inj hl hqy]; exact hy⟩, ⟨z'', ?_, ⟨v1, v2, ?_⟩, ?_, ?_⟩, fun d hdm => ?_⟩
    · exact (sb.2 _ D.TIz).trans (hk _ _ D.TIz D.TITO D.TIi1 D.TIi2 hTI)
    · exact (sb.2 _ D.TOz).trans TO'
    · exact d1.1.at fun o q => (sb.2 _ D.zi1.symm).trans q
    · exact d2.1.at fun o q => (sb.2 _ D.zi2.symm).trans q
    · have hlt : d < s.heap.objs.size := by
        have e' : d = z ∨ d = TI ∨ d = TO ∨ d = i1 ∨ d = i2 := by simpa using hdm
        rcases e' with q | q | q | q | q
        · rw [q]; exact hzl
        · rw [q]; exact Heap.lt_size hTI
        · rw [q]; exact Heap.lt_size hTO
        · rw [q]; obtain ⟨_, e1, _⟩ := h1; exact Heap.lt_size e1
        · rw [q]; obtain ⟨_, e2, _⟩ := h2; exact Heap.lt_size e2
      rw [upd_ne (Nat.ne_of_lt hlt)]
      exact (hf d hdm).1
  done := by
    intro X hP hw hK hc i pins s σ H E I hf st hg
    subst hP hw hK
    obtain ⟨hz, hTI, ⟨x0, y0, hTO⟩, h1, h2⟩ := st
    obtain ⟨xs, ys, hqx, hqy, hend⟩ := hg
    obtain ⟨its, rv, p, _⟩ := I.tuple hqx
    obtain ⟨its2, rv2, p2, _⟩ := I.list hqy
    have l1 := rv.length
    have l2 := rv2.length
    have hh : X.A.in1.handled = none := I.ok.hd hc
    obtain ⟨n1, P1, S1, D1, s1, m1, k1⟩ := draws_atT (P := X.prog) (w := X.w) hh i1 a na its.toArray i s.heap h1 p
    obtain ⟨n2, P2, S2, D2, s2, m2, k2⟩ := draws_at (P := X.prog) (w := X.w) hh i2 b nb its2.toArray i s.heap h2 p2.isList
    have he : i = n1 ∨ i = n2 := by
      rcases hend with q | q
      · exact .inl (k1 (by simp; omega))
      · exact .inr (k2 (by simp; omega))
    exact wpAny_pyNext_zipD2_end D D1 D2 hz hTI hTO s1 s2 m1 m2 he fun h' tk hk => ⟨rfl, I.turnedL (t' := tk) (ch := [z, TI, TO, i1, i2]) (fun d o hb q =>
      hk d o (fun q' => hb (by simp [q'])) (fun q' => hb (by simp [q'])) (fun q' => hb (by simp [q'])) (fun q' => hb (by simp [q'])) q) hf⟩
  self := fun A i s Q E st h => wpAny_pyIter_zip st.1 h
def iZipM (K : PySem.W.Frag) (ta : TA) : TI := fun σ H R => ta σ H fun vs H1 => ∃ a b xs ys, vs = [.ref a, .ref b] ∧ SqT K H1 a xs ∧ SqL K H1 b ys ∧ R (Itm K a b) H1
theorem pi_zipM {X : Cx} {e e2 : Expr} {ta : TA} {p pos tpos : Pos} {elts : List Expr} {kk : Nat} (hg : Gl X "zip") (hm : X.mg "zip" = none) (ha : PA X [e, e2] ta)
    (hs : starEach [e, e2] X.env = (false, eval e X.env) :: starEach [e2] X.env := by rfl) (hpl : (backTo pos (starEach [e2] X.env)).any (·.1) = false := by rfl) :
    PI X (.Tuple elts kk tpos) (.Call (.Name "zip" p) [e, e2] [] pos) (iZipM X.K ta) := by
  refine ⟨fun pins s σ H R I h => ?_⟩
  refine Call_ (ld_blt I hg hm PyProof.Rows.boot_zip (PyProof.Rows.callWith_type1 (thn (ha.run pos pins s σ H _ I h) fun us s1 ⟨vs, H1, I1, r1, q1⟩ => ?_) hs hpl))
  obtain ⟨a, b, xs, ys, ex, hqx, hqy, q⟩ := q1
  subst ex
  cases r1 with
  | cons r rr =>
    cases rr with
    | cons r' rr =>
      cases rr
      cases r
      cases r'
      obtain ⟨its, rv, p1, _⟩ := I1.tuple hqx
      obtain ⟨its2, rv2, p2, _⟩ := I1.list hqy
      have la : a < s1.heap.objs.size := by obtain ⟨o1, ho1, _⟩ := id p1; exact Heap.lt_size ho1
      have lb : b < s1.heap.objs.size := p2.lt
      refine zip_begins2 (begins_tuple a its.toArray) (begins_list b its2.toArray) (show s1.heap.IsTuple a its.toArray from p1) p2.isList fun h' hz hTI hTO g1 g2 hsz hk => wpAny_pyIter_zip hz ?_
      have I2 : Inv X pins σ H1 { s1 with heap := h' } := I1.kept (t' := s1.toks) hk
      have D := zip_sep2 (N := s1.heap.objs.size) (fp1 := [a]) (fp2 := [b]) (fun x hx => by rw [List.mem_singleton.mp hx]; exact la) (fun x hx => by rw [List.mem_singleton.mp hx]; exact lb)
      refine ⟨s1.heap.objs.size + 4, [s1.heap.objs.size + 4, s1.heap.objs.size + 2, s1.heap.objs.size + 3, s1.heap.objs.size, s1.heap.objs.size + 1], _, _, H1, rfl, I2, turn_zipM D (Nat.ne_of_lt la) (Nat.ne_of_lt (Nat.lt_of_lt_of_le lb (Nat.le_add_right _ _))), ⟨hz, hTI, ⟨_, _, hTO⟩, ⟨_, g1, rfl, rfl⟩, ⟨_, g2, rfl, rfl⟩⟩, fun d hd => ?_, q⟩
      have e' : d = s1.heap.objs.size + 4 ∨ d = s1.heap.objs.size + 2 ∨ d = s1.heap.objs.size + 3 ∨ d = s1.heap.objs.size ∨ d = s1.heap.objs.size + 1 := by simpa using hd
      have hle : s1.heap.objs.size ≤ d := by
        rcases e' with z | z | z | z | z
        · rw [z]; exact Nat.le_add_right _ _
        · rw [z]; exact Nat.le_add_right _ _
        · rw [z]; exact Nat.le_add_right _ _
        · rw [z]; exact Nat.le_refl _
        · rw [z]; exact Nat.le_add_right _ _
      exact I1.fpOk hle (I1.hok.fresh hle)
end
end L2
namespace Vs
open PySem PySem.Spec PyProof.Rows L2
section
variable {X : Cx} {W : WX} {own : List Nat} {a b : Expr} {fs : Env → R (List D)} {p pos : Pos} {K : PySem.W.Frag} {S : Hp}
theorem it_zipM {a b : Addr} {vs ws : List V} {ds es : List D} (h : TpT K S a vs) (r : Rds K S vs ds) (h' : SqL K S b ws) (r' : Rds K S ws es) : IterOk K (Itm K a b) S (zipL ds es) := fun S1 H1 i s1 s2 => by
  have hq : SqT K H1 a vs := (seqT (s1.trans s2) h).sq
  have hq' : SqL K H1 b ws := (s1.trans s2).seq h'
  refine ⟨fun d hd => ?_, fun hl => ⟨vs, ws, hq, hq', by rw [r.length, r'.length]; rw [zipL_length] at hl; omega⟩⟩
  obtain ⟨x, y, h1, h2, rfl⟩ := zipL_get hd
  obtain ⟨v, hv, rv⟩ := r.get h1
  obtain ⟨w, hw, rw_⟩ := r'.get h2
  refine ⟨⟨vs, ws, v, w, hq, hq', hv, hw⟩, fun x H' y => ?_⟩
  obtain ⟨T, k1, k2, rfl, hT, rfl, y1, y2⟩ := y
  have e := y1 vs hq
  rw [hv] at e
  cases e
  have e := y2 ws hq'
  rw [hw] at e
  cases e
  have sn : Same H1 (upd H1 T (.tup [v, w])) := new_same hT
  exact ⟨sn, .tup (.inl (ext_stt (s2.trans sn) upd_same trivial)) (.cons (rv.mono (s1.trans (ext_s []))) (.cons (rw_.mono (s1.trans (ext_s []))) .nil))⟩
def zipM : List D → R (List D)
  | [.tup xs, .lst ys] => .ok (zipL xs ys)
  | _ => .st
theorem vi_zipM {elts : List Expr} {kk : Nat} {tpos : Pos} (hg : Gl X "zip") (hm : X.mg "zip" = none) (ha : VPs X W own [a, b] fs) (hs : starEach [a, b] X.env = (false, eval a X.env) :: starEach [b] X.env := by rfl) (hpl : (backTo pos (starEach [b] X.env)).any (·.1) = false := by rfl) :
    VI X W own (.Tuple elts kk tpos) (.Call (.Name "zip" p) [a, b] [] pos) (itR zipM fs) :=
  ⟨piW (pi_zipM hg hm ha.pa hs hpl) fun σ H Q ⟨ρ, S, F, st, o⟩ => ⟨ρ, S, F, st, (Out.bind o).mono fun ds _ q vs H' A s n r => by
    unfold zipM at q
    split at q
    · obtain ⟨v, w, rfl, h1, h2⟩ := rds2 r
      cases h1 with
      | tup h r1 =>
        cases h2 with
        | lst h' r' => exact ⟨_, _, _, _, rfl, (seqT (ext_h (st.sub.trans s) A) h).sq, (ext_h (st.sub.trans s) A).seq h', q _ H' A s n (it_zipM h r1 h' r')⟩
    · exact q.elim⟩⟩
end
end Vs

namespace Vs
open PySem PySem.Spec PyProof.Rows L2
/-! x is True -/
def isBD (d e : D) : R D := match d, e with
  | .bl a, .bl b => .ok (.bl (decide (a = b)))
  | _, _ => .st
def isNotBD (d e : D) : R D := match d, e with
  | .bl a, .bl b => .ok (.bl (!decide (a = b)))
  | _, _ => .st
theorem nx_isB : NoEx2 isBD := fun d e c h => by unfold isBD at h; split at h <;> cases h
theorem nx_isNotB : NoEx2 isNotBD := fun d e c h => by unfold isNotBD at h; split at h <;> cases h
section
variable {X : Cx}
theorem d_isB : OpD X (fun x y H Q => ∃ a b, x = .bl a ∧ y = .bl b ∧ Q (.bl (decide (a = b))) H) isBD := fun x y d e H Q z rx ry h q => by
  unfold isBD at h
  split at h
  · cases h
    cases rx
    cases ry
    exact ⟨_, _, rfl, rfl, q _ H [] (Same.refl H) (.bl _) (fun _ h => nomatch h)⟩
  · cases h
theorem d_isNotB : OpD X (fun x y H Q => ∃ a b, x = .bl a ∧ y = .bl b ∧ Q (.bl (!decide (a = b))) H) isNotBD := fun x y d e H Q z rx ry h q => by
  unfold isNotBD at h
  split at h
  · cases h
    cases rx
    cases ry
    exact ⟨_, _, rfl, rfl, q _ H [] (Same.refl H) (.bl _) (fun _ h => nomatch h)⟩
  · cases h
end
end Vs

namespace Vs
open PySem PySem.Spec PyProof.Rows L2

/-! ### frozen lists: read by anyone, changed by none, held without owning -/
mutual
def thaw : D → D
  | .fz xs => .lst (thaws xs)
  | .lst xs => .lst (thaws xs)
  | .tup xs => .tup (thaws xs)
  | .non => .non
  | .bl b => .bl b
  | .int i => .int i
  | .str x => .str x
  | .dic t ks vs => .dic t ks vs
  | .fn x => .fn x
  | .exc c a => .exc c a
  | .obj c ks vs => .obj c ks vs
def thaws : List D → List D
  | [] => []
  | x :: xs => thaw x :: thaws xs
end
mutual
def fzD : D → D
  | .fz xs => .fz (fzDs xs)
  | .lst xs => .fz (fzDs xs)
  | .tup xs => .tup (fzDs xs)
  | .non => .non
  | .bl b => .bl b
  | .int i => .int i
  | .str x => .str x
  | .dic t ks vs => .dic t ks vs
  | .fn x => .fn x
  | .exc c a => .exc c a
  | .obj c ks vs => .obj c ks vs
def fzDs : List D → List D
  | [] => []
  | x :: xs => fzD x :: fzDs xs
end
section
variable {K : PySem.W.Frag} {H H' S : Hp}
mutual
theorem Rd.thaw : ∀ {v : V} {d : D}, Rd K H v d → Rd K H v (Vs.thaw d)
  | _, _, .non => by rw [Vs.thaw]; exact .non
  | _, _, .bl b => by rw [Vs.thaw]; exact .bl b
  | _, _, .int i => by rw [Vs.thaw]; exact .int i
  | _, _, .str x => by rw [Vs.thaw]; exact .str x
  | _, _, .fn n => by rw [Vs.thaw]; exact .fn n
  | _, _, .exc c a => by rw [Vs.thaw]; exact .exc c a
  | _, _, .lst h r => by rw [Vs.thaw]; exact .lst h (Rds.thaw r)
  | _, _, .fz h r => by rw [Vs.thaw]; exact .lst (.inl (.inr ⟨_, h⟩)) (Rds.thaw r)
  | _, _, .tup h r => by rw [Vs.thaw]; exact .tup h (Rds.thaw r)
  | _, _, .dk h q r => by rw [Vs.thaw]; exact .dk h q r
  | _, _, .dt h q r => by rw [Vs.thaw]; exact .dt h q r
  | _, _, .obj h h2 n q r => by rw [Vs.thaw]; exact .obj h h2 n q r
theorem Rds.thaw : ∀ {vs : List V} {ds : List D}, Rds K H vs ds → Rds K H vs (Vs.thaws ds)
  | _, _, .nil => by rw [Vs.thaws]; exact .nil
  | _, _, .cons h r => by rw [Vs.thaws]; exact .cons (Rd.thaw h) (Rds.thaw r)
end
mutual
/-- what is to be frozen stands in lists -/
theorem Fu.lists : ∀ {v : V} {d : D} {A : List Addr}, Fu K H v d A → immD (fzD d) = true → ∀ a ∈ A, ∃ vs, H a = some (.lst vs)
  | _, _, _, .non, _, _, h => nomatch h
  | _, _, _, .bl b, _, _, h => nomatch h
  | _, _, _, .int i, _, _, h => nomatch h
  | _, _, _, .str x, _, _, h => nomatch h
  | _, _, _, .fn n, _, _, h => nomatch h
  | _, _, _, .exc c a, _, _, h => nomatch h
  | _, _, _, .lst h r n, m, a, ha => by
    rw [fzD, immD] at m
    rcases List.mem_cons.mp ha with e | ha
    · exact ⟨_, e ▸ h⟩
    · exact Fus.lists r m a ha
  | _, _, _, .fz h r, _, _, ha => nomatch ha
  | _, _, _, .tup h r, m, a, ha => by
    rw [fzD, immD] at m
    exact Fus.lists r m a ha
  | _, _, _, .dk _ _ _ _, m, _, _ => by rw [fzD, immD] at m; cases m
  | _, _, _, .dt _ _ _ _, m, _, _ => by rw [fzD, immD] at m; cases m
  | _, _, _, .obj _ _ _ _ _ _ _ _, m, _, _ => by rw [fzD, immD] at m; cases m
theorem Fus.lists : ∀ {vs : List V} {ds : List D} {A : List Addr}, Fus K H vs ds A → immDs (fzDs ds) = true → ∀ a ∈ A, ∃ vs, H a = some (.lst vs)
  | _, _, _, .nil, _, _, h => nomatch h
  | _, _, _, .cons h r _, m, a, ha => by
    rw [fzDs, immDs, Bool.and_eq_true] at m
    rcases List.mem_append.mp ha with q | q
    · exact Fu.lists h m.1 a q
    · exact Fus.lists r m.2 a q
end
mutual
/-- frozen -/
theorem Fu.frz : ∀ {v : V} {d : D} {A : List Addr}, Fu K H v d A → immD (fzD d) = true → (∀ a ∈ A, ∀ vs, H a = some (.lst vs) → ∃ o, H' a = some (.frz o (.lst vs))) → (∀ b o, Stt o → H b = some o → H' b = some o) → Fu K H' v (fzD d) []
  | _, _, _, .non, _, _, _ => by rw [fzD]; exact .non
  | _, _, _, .bl b, _, _, _ => by rw [fzD]; exact .bl b
  | _, _, _, .int i, _, _, _ => by rw [fzD]; exact .int i
  | _, _, _, .str x, _, _, _ => by rw [fzD]; exact .str x
  | _, _, _, .fn n, _, _, _ => by rw [fzD]; exact .fn n
  | _, _, _, .exc c a, _, _, _ => by rw [fzD]; exact .exc c a
  | _, _, _, .lst h r n, m, k, t => by
    rw [fzD, immD] at m
    rw [fzD]
    obtain ⟨o, e⟩ := k _ List.mem_cons_self _ h
    exact .fz e (Fus.frz r m (fun a ha => k a (List.mem_cons_of_mem _ ha)) t)
  | _, _, _, .fz h r, m, k, t => by
    rw [fzD, immD] at m
    rw [fzD]
    exact .fz (t _ _ trivial h) (Fus.frz r m (fun a ha => nomatch ha) t)
  | _, _, _, .tup h r, m, k, t => by
    rw [fzD, immD] at m
    rw [fzD]
    exact .tup (h.imp (t _ _ trivial) id) (Fus.frz r m k t)
  | _, _, _, .dk _ _ _ _, m, _, _ => by rw [fzD, immD] at m; cases m
  | _, _, _, .dt _ _ _ _, m, _, _ => by rw [fzD, immD] at m; cases m
  | _, _, _, .obj _ _ _ _ _ _ _ _, m, _, _ => by rw [fzD, immD] at m; cases m
theorem Fus.frz : ∀ {vs : List V} {ds : List D} {A : List Addr}, Fus K H vs ds A → immDs (fzDs ds) = true → (∀ a ∈ A, ∀ vs, H a = some (.lst vs) → ∃ o, H' a = some (.frz o (.lst vs))) → (∀ b o, Stt o → H b = some o → H' b = some o) → Fus K H' vs (fzDs ds) []
  | _, _, _, .nil, _, _, _ => by rw [fzDs]; exact .nil
  | _, _, _, .cons h r _, m, k, t => by
    rw [fzDs, immDs, Bool.and_eq_true] at m
    rw [fzDs]
    exact Fus.cons (A := []) (B := []) (Fu.frz h m.1 (fun a ha => k a (List.mem_append_left _ ha)) t) (Fus.frz r m.2 (fun a ha => k a (List.mem_append_right _ ha)) t) fun _ z => nomatch z
end
end
def thawE (f : Env → R D) (ρ : Env) : R D := (f ρ).bind fun d => .ok (thaw d)
section
variable {X : Cx} {W : WX} {e : Expr} {f : Env → R D} {own : List Nat}
theorem VE.thaw (v : VE X W e f) : VE X W e (thawE f) := ⟨peW v.pe fun σ H Q ⟨ρ, r, o⟩ => ⟨ρ, r, (Out.bind o).mono fun d _ q v H' s rd => q v H' s rd.thaw⟩⟩
theorem VP.thaw (v : VP X W own e f) : VP X W own e (thawE f) := ⟨peW v.pe fun σ H Q ⟨ρ, S, F, st, o⟩ => ⟨ρ, S, F, st, (Out.bind o).mono fun d _ q v H' A s n rd => q v H' A s n rd.thaw⟩⟩
end
/-! freezing -/
theorem psG {X : Cx} {st : Stmt} {t u : TS} (h : PS X st u) (q : ∀ pins s σ H D, Inv X pins σ H s → t D σ H → ∃ H', Inv X pins σ H' s ∧ u D σ H') : PS X st t :=
  ⟨fun pins s σ H D I x => let ⟨H', I', x'⟩ := q pins s σ H D I x; h.run pins s σ H' D I' x'⟩
theorem lock_all {X : Cx} {pins : List (Addr × Obj)} {σ : L2.St} {s : Shared} {H : Hp} (I : Inv X pins σ H s) : ∀ A : List Addr, (∀ a ∈ A, ∃ vs, H a = some (.lst vs)) →
    ∃ H', Inv X pins σ H' s ∧ (∀ b, b ∉ A → H' b = H b) ∧ ∀ a ∈ A, ∀ vs, H a = some (.lst vs) → ∃ o, H' a = some (.frz o (.lst vs))
  | [], _ => ⟨H, I, fun _ _ => rfl, fun _ z => nomatch z⟩
  | a :: A, k => by
    obtain ⟨H1, I1, e1, e2⟩ := lock_all I A fun b hb => k b (List.mem_cons_of_mem _ hb)
    by_cases m : a ∈ A
    · refine ⟨H1, I1, fun b hb => e1 b fun z => hb (List.mem_cons_of_mem _ z), fun b hb vs h => ?_⟩
      rcases List.mem_cons.mp hb with rfl | hb
      · exact e2 _ m vs h
      · exact e2 b hb vs h
    · obtain ⟨vs, hv⟩ := k a List.mem_cons_self
      obtain ⟨od, I2⟩ := I1.lock ((e1 a m).trans hv) trivial
      refine ⟨_, I2, fun b hb => ?_, fun b hb us h => ?_⟩
      · rw [upd_ne (fun z => hb (by rw [z]; exact List.mem_cons_self))]
        exact e1 b fun z => hb (List.mem_cons_of_mem _ z)
      · by_cases eb : b = a
        · subst eb
          rw [hv] at h
          cases h
          exact ⟨od, upd_same⟩
        · rw [upd_ne eb]
          rcases List.mem_cons.mp hb with z | hb
          · exact absurd z eb
          · exact e2 b hb us h
def frzS (i : Nat) (f : Env → Sr) (ρ : Env) : Sr := match ρ[i]? with
  | some (some d) => if immD (fzD d) = true then f (ρ.set i (some (fzD d))) else .st
  | _ => .st
open Classical in
/-- slot i is frozen ahead of the statement -/
theorem vs_frz {X : Cx} {W : WX} {own own1 own' : List Nat} {ol : Ol} {st : Stmt} {f : Env → Sr} (i : Nat) (h : VS X W own1 own' ol st f) (hi : i ∈ own := by decide) (w : own1 = own.filter (fun k => decide (k ≠ i)) := by rfl) : VS X W own own' ol st (frzS i f) :=
  ⟨psG h.ps fun pins s σ H D I ⟨B, ρ, x, pn, q⟩ => by
    unfold frzS at q
    split at q
    rotate_left
    · exact q.elim
    rename_i d ei
    by_cases m : immD (fzD d) = true
    rotate_left
    · rw [if_neg m] at q; exact q.elim
    rw [if_pos m] at q
    obtain ⟨S, F, b, y⟩ := x
    obtain ⟨v, h1, h2, _⟩ := y.val i d ei
    have fu := h2 hi
    obtain ⟨H', I', k1, k2⟩ := lock_all I (F i) (fu.lists m)
    have w2 : ∀ k, k ∈ own1 ↔ k ∈ own ∧ k ≠ i := fun k => by rw [w, List.mem_filter, decide_eq_true_eq]
    have offS : ∀ a ∈ F i, S a = none := fun a ha => (y.out i hi a ha).1
    have offT : ∀ a o, Stt o → H a = some o → a ∉ F i := fun a o t e z => by
      obtain ⟨_, o', e', n⟩ := y.out i hi a z
      rw [e] at e'; cases e'; exact n t
    let S' : Hp := fun a => if a ∈ F i then H' a else S a
    have sS : Same S S' := fun a o e => by
      show (if a ∈ F i then H' a else S a) = some o
      rw [if_neg fun z => by rw [offS a z] at e; cases e]
      exact e
    have hT : ∀ a o, Stt o → H a = some o → H' a = some o := fun a o t e => by rw [k1 a (offT a o t e)]; exact e
    refine ⟨H', I', B, ρ.set i (some (fzD d)), ⟨S', F, b.trans sS, ?_⟩, pn, q⟩
    refine ⟨by rw [List.length_set]; exact y.len, fun a o e => ?_, fun a o e t => ?_, fun j e hj => ?_, fun j hj a ha => ?_, fun j hj k hk => y.dis j ((w2 j).mp hj).1 k ((w2 k).mp hk).1⟩
    · have e : (if a ∈ F i then H' a else S a) = some o := e
      by_cases z : a ∈ F i
      · rw [if_pos z] at e; exact e
      · rw [if_neg z] at e
        rw [k1 a z]
        exact y.sub a o e
    · show (if a ∈ F i then H' a else S a) = some o
      by_cases z : a ∈ F i
      · rw [if_pos z]; exact e
      · rw [if_neg z]
        rw [k1 a z] at e
        exact y.cl a o e t
    · rcases get_set hj with ⟨e1, e2, _⟩ | ⟨ne, hj⟩
      · cases e2
        rw [e1]
        refine ⟨v, h1, fun z => absurd rfl ((w2 _).mp z).2, fun _ => (fu.frz (H' := S') m (fun a ha vs hv => ?_) fun a o t e => ?_).rd⟩
        · show ∃ o, (if a ∈ F i then H' a else S a) = _
          rw [if_pos ha]
          exact k2 a ha vs hv
        · show (if a ∈ F i then H' a else S a) = _
          rw [if_neg (offT a o t e)]
          exact y.cl a o e t
      · obtain ⟨u, g1, g2, g3⟩ := y.val j e hj
        refine ⟨u, g1, fun z => (g2 ((w2 j).mp z).1).at (fun a ha => ?_) hT, fun z => (g3 fun z' => z ((w2 j).mpr ⟨z', ne⟩)).mono sS⟩
        exact k1 a fun z' => y.dis j ((w2 j).mp z).1 i hi ((w2 j).mp z).2 a ha z'
    · obtain ⟨o1, o, o2, o3⟩ := y.out j ((w2 j).mp hj).1 a ha
      have nz : a ∉ F i := fun z => y.dis j ((w2 j).mp hj).1 i hi ((w2 j).mp hj).2 a ha z
      refine ⟨?_, o, by rw [k1 a nz]; exact o2, o3⟩
      show (if a ∈ F i then H' a else S a) = none
      rw [if_neg nz]
      exact o1⟩
end Vs
namespace Vs
open PySem PySem.Spec PyProof.Rows L2
/-! list(dict): its keys -/
def listKD : List D → R D
  | [.dic false ks _] => .ok (.lst ks)
  | _ => .st
theorem nx_listK : NoEx1 listKD := fun ds c h => by unfold listKD at h; split at h <;> cases h
theorem rds_kvs {K : PySem.W.Frag} {H : Hp} : ∀ kvs : List (Key × V), Rds K H (kvs.map fun kv => kV kv.1) (kvs.map fun p => keyD p.1)
  | [] => .nil
  | (.inl i, _) :: r => .cons (.int i) (rds_kvs r)
  | (.inr x, _) :: r => .cons (.str x) (rds_kvs r)
theorem imm_keys : ∀ kvs : List (Key × V), immDs (kvs.map fun p => keyD p.1) = true
  | [] => by rw [List.map_nil, immDs]
  | (.inl i, _) :: r => by
    rw [List.map_cons, immDs, imm_keys r]
    show (immD (.int i) && true) = true
    rw [immD]; rfl
  | (.inr x, _) :: r => by
    rw [List.map_cons, immDs, imm_keys r]
    show (immD (.str x) && true) = true
    rw [immD]; rfl
theorem cb_listK {X : Cx} : CbD X rListD listKD := fun vs ds H Q z r h q => by
  unfold listKD at h
  split at h
  · obtain ⟨v, rfl, h1⟩ := rds1 r
    cases h
    cases h1 with
    | dk h1 e r1 =>
      subst e
      exact ⟨_, _, rfl, h1, fun l hl => q _ _ [l] (new_same hl) (fu_new_lst hl (rds_kvs _) (imm_keys _)) fun a ha => by rw [List.mem_singleton.mp ha]; exact hl⟩
  · cases h
end Vs

namespace Vs
open PySem PySem.Spec PyProof.Rows L2

/-! ### a call with a keyword: what is left out ahead of it and behind it comes from the defaults -/
def kwG {α : Type} (n c : Nat) (pre post : List α) (us ws : List α) : List α := if us.length = n ∧ ws.length = c then us ++ pre ++ ws ++ post else []
def CalK (P : Program) (w : World) (K : PySem.W.Frag) (mg : Str → Option Value) (base : Heap) (x : Str) (ps ks : List Str) (n : Nat) (pre post : List D) (k : Nat) (m : List D → R D) : Prop :=
  ∃ f fd p1 p2 v1 v2, mg x = some (.ref f) ∧ PySem.W.keepIn K (.ref f) = true ∧ KBinds K fd ps ks (kwG n ks.length p1 p2) (kwG n ks.length v1 v2) ∧ (∀ H, Rds K H v1 pre) ∧ (∀ H, Rds K H v2 post) ∧ n + pre.length + ks.length + post.length = ps.length ∧ FnOk P w K mg base (L2.CX P w) k f fd ps (spF K mg ps.length m)
section
variable {P : Program} {w : World} {K : PySem.W.Frag} {mg : Str → Option Value} {base : Heap}
theorem kbinds_mk {x qual : Str} {params : Arguments} {body : List Stmt} {scope : Scope} {dvs : List V} {f : Addr} {fd : FuncData} {ps ks : List Str} (F : FunD K x qual params body scope dvs [] f fd) (n a b c : Nat) (hd : dvs ≠ []) (hp : 0 < ps.length)
    (h : ∀ (T : Addr) (kV doc pm : Value) (an : Option Addr) (cdv ct : Value) (us ws its : List Value), us.length = n → ws.length = ks.length → its.length = dvs.length →
      ∃ k, bindArgs (PySem.W.fnOf x qual params body scope (.ref T) kV doc pm an cdv ct) ⟨us, ks.zip ws⟩ = seqItems? (.ref T) >>= k ∧ k (some its.toArray) = pure (ps.zip (us ++ (its.drop a).take b ++ ws ++ its.drop c))) :
    ∃ p1 p2, KBinds K fd ps ks (kwG n ks.length p1 p2) (kwG n ks.length ((dvs.drop a).take b) (dvs.drop c)) := by
  obtain ⟨oc, od, dV, kV, doc, pm, an, cdv, ct, osl, rfl, lk, hcd, hD, hK⟩ := F.ex
  rcases hD with ⟨e, _⟩ | ⟨_, T, o, its, m, rfl, lT, oT, rT⟩
  · exact absurd e hd
  · refine ⟨(its.drop a).take b, its.drop c, ⟨fun s us ws X hlen => ?_, fun {vs us zs ws} r1 r2 => ?_⟩⟩
    · have l1 : its.length = dvs.length := rT.length.symm
      unfold kwG at hlen ⊢
      by_cases hc : us.length = n ∧ ws.length = ks.length
      · rw [if_pos hc] at hlen ⊢
        obtain ⟨k, e1, e2⟩ := h T kV doc pm an cdv ct us ws its hc.1 hc.2 l1
        refine BindsTo.of_looks fun M => ?_
        rw [e1]
        exact looks_items X lT oT (.of_pure e2)
      · rw [if_neg hc] at hlen
        exact absurd hlen.symm (Nat.ne_of_gt hp)
    · unfold kwG
      rw [r1.length, r2.length]
      by_cases hc : us.length = n ∧ ws.length = ks.length
      · rw [if_pos hc, if_pos hc]
        exact ((r1.append ((rT.drop a).take b)).append r2).append (rT.drop c)
      · rw [if_neg hc, if_neg hc]
        exact .nil
theorem calK_mk {x : Str} {st : Stmt} {N ps ks : List Str} {k : Nat} {own' : List Nat} {bm : Env → Sr} {dvs : List V} (F : DefD K mg x st dvs) (S : FnScope N ps (defScope st)) (hps : ps.length ≤ N.length) (n a b c : Nat) (pre post : List D) (hr1 : ∀ H, Rds K H ((dvs.drop a).take b) pre) (hr2 : ∀ H, Rds K H (dvs.drop c) post) (hd : dvs ≠ []) (hp : 0 < ps.length)
    (hn : n + pre.length + ks.length + post.length = ps.length)
    (hb : ∀ (T : Addr) (kV doc pm : Value) (an : Option Addr) (cdv ct : Value) (us ws its : List Value), us.length = n → ws.length = ks.length → its.length = dvs.length →
      ∃ k, bindArgs (PySem.W.fnOf x x (defArgs st) (defBody st) (defScope st) (.ref T) kV doc pm an cdv ct) ⟨us, ks.zip ws⟩ = seqItems? (.ref T) >>= k ∧ k (some its.toArray) = pure (ps.zip (us ++ (its.drop a).take b ++ ws ++ its.drop c)))
    (hbody : ∀ (f : Addr) (cdv : Value) (A : Around) (outer : List PySem.Env) (s : Shared) (H : Hp) (E : XK), Room k (A.deeper (envOfC x (defScope st) s.heap.objs.size f cdv)) →
      VSs (cxOf (L2.CX P w) P w K mg base N x (defScope st) f cdv A outer s H E) (fun cls d _ H => E cls d H) [] own' nol (defBody st) bm) :
    CalK P w K mg base x ps ks n pre post (k + 1) (runB N.length bm) := by
  obtain ⟨f, fd, F, h⟩ := F
  obtain ⟨p1, p2, kb⟩ := kbinds_mk (ks := ks) F n a b c hd hp hb
  exact ⟨f, fd, p1, p2, _, _, h, F.kp, kb, hr1, hr2, hn, fnD_ok F S hps (fun cdv A outer s H E hr => hbody f cdv A outer s H E hr)⟩
end
section
variable {X : Cx} {CX : CXT} {k : Nat} {f : Addr} {fd : FuncData} {ps ks : List Str} {sp : Sp} {E : L2.St → XK} {x : Str} {p pos : Pos} {e : Expr} {es : List Expr} {kws : List Keyword} {t tk : TA}
def tCallSK (sp : Sp) (gV : List V → List V → List V) (E : L2.St → XK) (t tk : TA) : TE := fun σ H Q => t σ H fun vs H1 => tk σ H1 fun zs H2 => sp (gV vs zs) H2 Q (E σ)
variable {g : List Value → List Value → List Value} {gV : List V → List V → List V}
theorem run_fnSK {pins : List (Addr × Obj)} {σ : L2.St} {H : Hp} {s : Shared} {Q : VK} {us ws : List Value} {vs zs : List V} (F : FnOk X.prog X.w X.K X.mg X.base CX k f fd ps sp) (hr : Room k X.A) (hb : KBinds X.K fd ps ks g gV) (hx : PassesAt CX X σ (E σ))
    (I : Inv X pins σ H s) (r : Vals vs us) (rz : Vals zs ws) (h : sp (gV vs zs) H Q (E σ)) : wpAny (model X.prog X.w) X.A (call (.ref f) us (ks.zip ws)) (EP X pins σ Q) X.xe s := by
  have r2 := hb.rel r rz
  have hl : (g us ws).length = ps.length := by rw [← r2.length]; exact F.len _ _ _ _ h
  refine wpAny_call (codeAny_mono (F.run X.A X.stack s H ⟨us, ks.zip ws⟩ (g us ws) (gV vs zs) Q (E σ) hr I.env0 (hb.to s us ws I.kIn hl) r2 h) fun r s' hq => ?_)
  cases r with
  | error e => exact hx pins H s e s' I hq
  | ok fl =>
    cases fl with
    | ret u => exact I.after hq
    | next => exact False.elim hq
    | brk => exact False.elim hq
    | cont => exact False.elim hq
theorem pe_callSK (F : FnOk X.prog X.w X.K X.mg X.base CX k f fd ps sp) (hr : Room k X.A) (hg : Gl X x) (hm : X.mg x = some (.ref f)) (hk : PySem.W.keepIn X.K (.ref f) = true) (hb : KBinds X.K fd ps ks g gV) (hx : ∀ σ, PassesAt CX X σ (E σ))
    (ha : PA X (e :: es) t) (hkw : PK X kws tk) (hall : (backToKw pos (keywordEach kws X.env)).all (·.1.isSome) = true) (hks : (backToKw pos (keywordEach kws X.env)).filterMap (·.1) = ks)
    (hdb : (x == ("__debug__" : Str)) = false) (he : starEach (e :: es) X.env = (false, eval e X.env) :: starEach es X.env)
    (hpl : ((backTo pos (starEach (e :: es) X.env)).any (·.1) || (backToKw pos (keywordEach kws X.env)).any (·.1.isNone)) = false) :
    PE X (.Call (.Name x p) (e :: es) kws pos) (tCallSK sp gV E t tk) := by
  refine ⟨fun pins s σ H Q I h => ?_⟩
  refine wpAny_Call_Name_kw (ld_glob I hg hm ?_ hdb)
  refine PySem.W.callWith_KW (h₀ := X.base) I.ok.mod.kin hk hall (thn (ha.run pos pins s σ H _ I h) fun us s1 ⟨vs, H1, I1, r, q⟩ => ?_) hpl he
  refine thn (hkw.run pos pins s1 σ H1 _ I1 q) fun ws s2 ⟨zs, H2, I2, rz, q2⟩ => ⟨I2.kIn, ?_⟩
  rw [hks]
  exact run_fnSK F hr hb (hx σ) I2 r rz q2
end
theorem Out.later {α : Type} {mg : Str → Option Value} {W : WX} {σ : L2.St} {H H' : Hp} {r : R α} {P : α → Prop} (s : Same H H') (h : Out mg W σ H r P) : Out mg W σ H' r P := by
  cases r with
  | ok a => exact h
  | ex c => obtain ⟨C, h1, h2⟩ := h; exact ⟨C, h1, fun H2 s2 => h2 H2 (s.trans s2)⟩
  | st => exact h
def kwA (fs : Env → R (List D)) (fk : Env → R D) (pre post : List D) (ρ : Env) : R (List D) := (fs ρ).bind fun ds => (fk ρ).bind fun d => .ok (ds ++ pre ++ [d] ++ post)
theorem vg_fnK {X : Cx} {W : WX} {x : Str} {ps : List Str} {n k k' : Nat} {pre post : List D} {m : List D → R D} {p pos kpos : Pos} {e ke : Expr} {es : List Expr} {kn : Str} {fs : Env → R (List D)} {fk : Env → R D} (C : CalK X.prog X.w X.K X.mg X.base x ps [kn] n pre post k m) (hr : Room k' X.A) (tk : Takes X W) (hg : Gl X x)
    (ha : VA X W (e :: es) fs) (hke : VE X W ke fk) (hl : LenA fs n) (hk : k ≤ k' := by decide) (hdb : (x == ("__debug__" : Str)) = false := by decide) (he : starEach (e :: es) X.env = (false, eval e X.env) :: starEach es X.env := by rfl)
    (hall : (backToKw pos (keywordEach [⟨some kn, ke, kpos⟩] X.env)).all (·.1.isSome) = true := by rfl) (hks : (backToKw pos (keywordEach [⟨some kn, ke, kpos⟩] X.env)).filterMap (·.1) = [kn] := by rfl)
    (hpl : ((backTo pos (starEach (e :: es) X.env)).any (·.1) || (backToKw pos (keywordEach [⟨some kn, ke, kpos⟩] X.env)).any (·.1.isNone)) = false := by rfl) :
    VG X W (.Call (.Name x p) (e :: es) [⟨some kn, ke, kpos⟩] pos) (callF m (kwA fs fk pre post)) := by
  obtain ⟨f, fd, p1, p2, v1, v2, h1, h2, h3, r1, r2, hn, h4⟩ := C
  refine ⟨peW (pe_callSK h4 (hr.mono hk) hg h1 h2 h3 (fun σ => passAt tk σ) ha.pa (pk_cons hke.pe pk_nil) hall hks hdb he hpl) fun σ H Q ⟨ρ, re, o⟩ => ⟨ρ, re, (Out.bind (Out.bind o)).mono fun ds hd q vs H1 s1 ra => ?_⟩⟩
  refine ⟨ρ, re.mono s1, ?_⟩
  have q := Out.later s1 (Out.bind q)
  refine q.mono fun d hdd q u H2 s2 rk => ?_
  have hds : ds.length = n := hl ρ ds hd
  have hvs : vs.length = n := ra.length.trans hds
  have e1 : kwG n [kn].length v1 v2 vs [u] = vs ++ v1 ++ [u] ++ v2 := if_pos ⟨hvs, rfl⟩
  show spF X.K X.mg ps.length m (kwG n [kn].length v1 v2 vs [u]) H2 Q _
  rw [e1]
  refine ⟨?_, ds ++ pre ++ [d] ++ post, (((ra.mono s2).app (r1 H2)).app (.cons rk .nil)).app (r2 H2), ?_⟩
  · simp only [List.length_append, hvs, (r1 H2).length, (r2 H2).length, List.length_cons, List.length_nil]
    simpa using hn
  · have q : Out X.mg W σ H (m (ds ++ pre ++ [d] ++ post)) _ := q
    cases hz : m (ds ++ pre ++ [d] ++ post) with
    | ok d => rw [hz] at q; exact fun v H' A s3 f2 n2 => q v H' A ((s1.trans s2).trans s3) f2 fun a z => (s1.trans s2).free (n2 a z)
    | ex c => rw [hz] at q; obtain ⟨C, h1, h2⟩ := q; exact ⟨C, h1, fun H' s3 => h2 H' ((s1.trans s2).trans s3)⟩
    | st => rw [hz] at q; exact q.elim
end Vs

namespace Vs
open PySem PySem.Spec PyProof.Rows L2

/-! ### slots handed over within expressions -/
def offF (mv : List Nat) (F : Nat → List Addr) (j : Nat) : List Addr := if j ∈ mv then [] else F j
theorem offF_mem {mv : List Nat} {F : Nat → List Addr} {j : Nat} {a : Addr} (h : a ∈ offF mv F j) : j ∉ mv ∧ a ∈ F j := by
  unfold offF at h
  split at h
  · cases h
  · rename_i n; exact ⟨n, h⟩
section
variable {K : PySem.W.Frag} {own mv : List Nat} {S H H' : Hp} {F : Nat → List Addr} {ρ : Env} {σ : L2.St}
theorem Stx.off (h : Stx own K S F ρ σ H) (mv : List Nat) : Stx own K S (offF mv F) (wipeD ρ mv) σ H := by
  refine ⟨by rw [wipeD_length]; exact h.len, h.sub, h.cl, fun j d q => ?_, fun j m a ha => h.out j m a (offF_mem ha).2, fun j m k mk ne a ha hb => h.dis j m k mk ne a (offF_mem ha).2 (offF_mem hb).2⟩
  obtain ⟨q, n⟩ := wipeD_some q
  obtain ⟨v, h1, h2, h3⟩ := h.val j d q
  refine ⟨v, h1, fun m => ?_, h3⟩
  unfold offF
  rw [if_neg n]
  exact h2 m
/-- what stays, and what the slots own, is as it was -/
theorem Stx.on (h : Stx own K S F ρ σ H) (sS : Same S H') (hF : ∀ j ∈ own, ∀ a ∈ F j, H' a = H a) (hT : ∀ b o, Stt o → H b = some o → H' b = some o) : Stx own K (ext S H' []) F ρ σ H' := by
  refine ⟨h.len, ext_h sS _, fun a o e t => ext_stt sS e t, fun i d q => ?_, fun i m a ha => ?_, h.dis⟩
  · obtain ⟨v, h1, h2, h3⟩ := h.val i d q
    exact ⟨v, h1, fun m => (h2 m).at (hF i m) hT, fun m => (h3 m).mono (ext_s _)⟩
  · obtain ⟨h1, o, h2, h3⟩ := h.out i m a ha
    have h4 : H' a = some o := (hF i m a ha).trans h2
    exact ⟨ext_none h1 (fun z => nomatch z) fun o' e => by rw [h4] at e; cases e; exact h3, o, h4, h3⟩
end
def mvX (i : Nat) (ρ : Env) : RX D := match ρ[i]? with
  | some (some d) => .ok d (wipeD ρ [i])
  | _ => .st
def mvR {α : Type} (mv : List Nat) (r : R α) (ρ : Env) : RX α := match r with
  | .ok a => .ok a (wipeD ρ mv)
  | .ex c => .ex c (wipeD ρ mv)
  | .st => .st
theorem OutX.mv {α : Type} {K : PySem.W.Frag} {mg : Str → Option Value} {W : WX} {own mv : List Nat} {S H : Hp} {F : Nat → List Addr} {B : Hp} {σ : L2.St} {r : R α} {ρ : Env} {P : α → Env → Prop} (b : Same B S) (st : Stx own K S F ρ σ H) (h : OutX K mg W own B σ (mvR mv r ρ) P) : Out mg W σ H r fun a => P a (wipeD ρ mv) := by
  cases r with
  | ok a => exact h
  | ex c =>
    obtain ⟨C, h1, h2⟩ := h
    exact ⟨C, h1, fun H' s => h2 H' (Sta.grow ⟨S, _, b, st.off mv⟩ s)⟩
  | st => exact h
def tMs (K : PySem.W.Frag) (mg : Str → Option Value) (W : WX) (own mv : List Nat) (f : Env → R (List D)) : TA := fun σ H Q => ∃ ρ S F, Stx own K S F ρ σ H ∧ Out mg W σ H (f ρ) fun ds => ∀ vs H' A, Same H H' → Fus K H' vs ds A → (∀ a ∈ A, H a = none ∨ ∃ i ∈ mv, a ∈ F i) → Q vs H'
structure VMs (X : Cx) (W : WX) (own mv : List Nat) (es : List Expr) (f : Env → R (List D)) : Prop where
  pa : PA X es (tMs X.K X.mg W own mv f)
  md : ∀ i ∈ mv, i ∈ own
section
variable {X : Cx} {W : WX} {own mv : List Nat} {e : Expr} {es : List Expr} {f : Env → R D} {fs : Env → R (List D)} {x : Str} {p pos : Pos}
theorem vx_mv (i : Nat) (pv : PE X (.Name x p) (tVar i)) (hi : i ∈ own := by decide) : VX X W own (.Name x p) (mvX i) := ⟨peW pv fun σ H Q ⟨B, ρ, st, o⟩ => by
  unfold mvX at o
  split at o
  · rename_i d e
    obtain ⟨S, F, b, y⟩ := st
    obtain ⟨v, h1, h2, _⟩ := y.val i d e
    exact ⟨v, h1, o v H ⟨S, offF [i] F, F i, b, y.off [i], h2 hi, fun a m => (y.out i hi a m).1, fun j hj a ha z => by
      obtain ⟨n, z⟩ := offF_mem z
      exact y.dis i hi j hj (fun e => n (by rw [e]; exact List.mem_cons_self)) a ha z⟩⟩
  · exact o.elim⟩
theorem vms_nil : VMs X W own [] [] nilA := ⟨paW pa_nil fun σ H Q ⟨ρ, S, F, st, o⟩ => o [] H [] (Same.refl H) .nil (fun _ z => nomatch z), fun _ z => nomatch z⟩
theorem vms_mv (i : Nat) (pv : PE X (.Name x p) (tVar i)) (hr : VMs X W own mv es fs) (hi : i ∈ own := by decide) (hn : i ∉ mv := by decide) (hs : starEach (.Name x p :: es) X.env = (false, eval (.Name x p) X.env) :: starEach es X.env := by rfl) : VMs X W own (i :: mv) (.Name x p :: es) (consA (varE i) fs) :=
  ⟨paW (pa_cons pv hr.pa hs) fun σ H Q ⟨ρ, S, F, st, o⟩ => by
    obtain ⟨d, hd, hv, o⟩ := varE_get (Out.bind o)
    obtain ⟨v, h1, h2, _⟩ := st.val i d hd
    refine ⟨v, h1, ρ, S, F, st, (Out.bind o).mono fun ds _ q vs H' A s f n => ?_⟩
    refine q (v :: vs) H' (F i ++ A) s (.cons ((h2 hi).same s) f fun a ha hb => ?_) fun a ha => ?_
    · rcases n a hb with z | ⟨j, hj, z⟩
      · obtain ⟨_, o, e, _⟩ := st.out i hi a ha
        rw [z] at e; cases e
      · exact st.dis i hi j (hr.md j hj) (fun e => hn (e ▸ hj)) a ha z
    · rcases List.mem_append.mp ha with z | z
      · exact .inr ⟨i, List.mem_cons_self, z⟩
      · rcases n a z with z | ⟨j, hj, z⟩
        · exact .inl z
        · exact .inr ⟨j, List.mem_cons_of_mem _ hj, z⟩, fun j hj => (List.mem_cons.mp hj).elim (fun e => e ▸ hi) (hr.md j)⟩
theorem vms_g (he : VG X W e f) (hr : VMs X W own mv es fs) (hs : starEach (e :: es) X.env = (false, eval e X.env) :: starEach es X.env := by rfl) : VMs X W own mv (e :: es) (consA f fs) :=
  ⟨paW (pa_cons he.pe hr.pa hs) fun σ H Q ⟨ρ, S, F, st, o⟩ => ⟨ρ, st.env, (Out.bind o).mono fun d _ q v H1 A1 s1 f1 n1 => ⟨ρ, _, F, st.grow s1 (A := []) (fun _ z => nomatch z), ((Out.bind q).up s1).mono fun ds _ q vs H' A s f n => by
    refine q (v :: vs) H' (A1 ++ A) (s1.trans s) (.cons (f1.same s) f fun a ha hb => ?_) fun a ha => ?_
    · rcases n a hb with z | ⟨j, hj, z⟩
      · obtain ⟨o, e⟩ := f1.there a ha
        rw [z] at e; cases e
      · obtain ⟨_, o, e, _⟩ := st.out j (hr.md j hj) a z
        rw [n1 a ha] at e; cases e
    · rcases List.mem_append.mp ha with z | z
      · exact .inl (n1 a z)
      · exact (n a z).imp s1.free id⟩⟩, hr.md⟩
/-- what was handed over stands beside the state -/
theorem mvs_end {K : PySem.W.Frag} {S H H' : Hp} {F : Nat → List Addr} {ρ : Env} {σ : L2.St} {vs : List V} {ds : List D} {A : List Addr} (st : Stx own K S F ρ σ H) (md : ∀ i ∈ mv, i ∈ own) (s : Same H H') (f : Fus K H' vs ds A) (n : ∀ a ∈ A, H a = none ∨ ∃ i ∈ mv, a ∈ F i) :
    Stx own K (ext S H' []) (offF mv F) (wipeD ρ mv) σ H' ∧ (∀ a ∈ A, ext S H' [] a = none) ∧ ∀ j ∈ own, ∀ a ∈ A, a ∉ offF mv F j := by
  refine ⟨(st.off mv).grow s (A := []) (fun _ z => nomatch z), fun a ha => ?_, fun j hj a ha z => ?_⟩
  · obtain ⟨o, h1, h2⟩ := f.soft a ha
    refine ext_none ?_ (fun z => nomatch z) (fun o' e => by rw [h1] at e; cases e; exact h2)
    rcases n a ha with z | ⟨i, hi, z⟩
    · exact st.sub.free z
    · exact (st.out i (md i hi) a z).1
  · obtain ⟨nj, z⟩ := offF_mem z
    rcases n a ha with w | ⟨i, hi, w⟩
    · obtain ⟨_, o, e, _⟩ := st.out j hj a z
      rw [w] at e; cases e
    · exact st.dis j hj i (md i hi) (fun e => nj (e ▸ hi)) a z w
/-- a display of things handed over -/
def lstM (mv : List Nat) (fs : Env → R (List D)) (ρ : Env) : RX D := mvR mv ((fs ρ).bind fun ds => .ok (.lst ds)) ρ
theorem vx_lst {n : Nat} (ha : VMs X W own mv es fs) (hl : LenA fs n) (hn : n ≤ 1000 := by decide) : VX X W own (.List es pos) (lstM mv fs) := ⟨peW (pe_lst ha.pa) fun σ H Q ⟨B, ρ, ⟨S, F, b, y⟩, o⟩ => ⟨ρ, S, F, y, (Out.bind (OutX.mv b y o)).mono fun ds hd q vs H1 A s1 f1 n1 => ⟨le_line (f1.length.trans (hl ρ ds hd)) hn, fun p hp => by
  obtain ⟨y1, g1, g2⟩ := mvs_end y ha.md s1 f1 n1
  have s2 : Same H1 (upd H1 p (.lst vs)) := new_same hp
  have fp : p ∉ A := fun z => by
    obtain ⟨o, e⟩ := f1.there p z
    rw [hp] at e; cases e
  refine q (.ref p) _ ⟨_, _, p :: A, b.trans ((ext_s (H := H1) []).trans (ext_s [])), y1.grow s2 (A := []) (fun _ z => nomatch z), .lst upd_same (f1.same s2) fp, fun a ha => ?_, fun j hj a ha z => ?_⟩
  · rcases List.mem_cons.mp ha with z | z
    · subst z
      exact ext_none (y1.sub.free hp) (fun z => nomatch z) fun o' e => by rw [upd_same] at e; cases e; exact fun z => (show False from z)
    · obtain ⟨o, e1, e2⟩ := (f1.same s2).soft a z
      exact ext_none (g1 a z) (fun z => nomatch z) fun o' e => by rw [e1] at e; cases e; exact e2
  · rcases List.mem_cons.mp ha with w | w
    · subst w
      obtain ⟨_, o, e, _⟩ := y1.out j hj a z
      rw [hp] at e; cases e
    · exact g2 j hj a w z⟩⟩⟩
/-- a def that is given its arguments, some of them slots' -/
def giveX (mv : List Nat) (m : List D → R D) (fs : Env → R (List D)) (ρ : Env) : RX D := mvR mv ((fs ρ).bind m) ρ
theorem vx_callG {ps : List Str} {k k' : Nat} {m : List D → R D} (C : CalG X.prog X.w X.K X.mg X.base x ps k m) (hr : Room k' X.A) (tk : Takes X W) (hg : Gl X x)
    (ha : VMs X W own mv (e :: es) fs) (hl : LenA fs ps.length) (hk : k ≤ k' := by decide) (hdb : (x == ("__debug__" : Str)) = false := by decide) (he : starEach (e :: es) X.env = (false, eval e X.env) :: starEach es X.env := by rfl) (hpl : (backTo pos (starEach es X.env)).any (·.1) = false := by rfl) :
    VX X W own (.Call (.Name x p) (e :: es) [] pos) (giveX mv m fs) := by
  classical
  obtain ⟨f, fd, h1, h2, h3, h4⟩ := C
  refine ⟨peW (pe_callS h4 (hr.mono hk) hg h1 h2 h3 (fun σ => passAt tk σ) ha.pa hdb he hpl) fun σ H Q ⟨B, ρ, ⟨S, F, b, y⟩, o⟩ => ⟨ρ, S, F, y, ?_⟩⟩
  cases hf : fs ρ with
  | st => unfold giveX at o; rw [hf] at o; exact o.elim
  | ex c =>
    unfold giveX at o; rw [hf] at o
    obtain ⟨C, g1, g2⟩ := o
    exact ⟨C, g1, fun H' s => g2 H' (Sta.grow ⟨S, _, b, y.off mv⟩ s)⟩
  | ok ds =>
    intro vs H1 A s1 f1 n1
    obtain ⟨y1, g1, g2⟩ := mvs_end y ha.md s1 f1 n1
    have soft : ∀ a ∈ A, ∀ o, H1 a = some o → ¬ Stt o := fun a ha o e => by
      obtain ⟨o', e1, e2⟩ := f1.soft a ha
      rw [e1] at e; cases e; exact e2
    refine ⟨f1.length.trans (hl ρ ds hf), fun a => if a ∈ A then none else H1 a, ds, A, fun a o e => ?_, fun a o e t => ?_, f1, fun a ha => by simp only; rw [if_pos ha], ?_⟩
    · simp only at e
      split at e
      · cases e
      · exact e
    · simp only
      rw [if_neg fun z => soft a z o e t]
      exact e
    have back : ∀ H', Same (fun a => if a ∈ A then none else H1 a) H' → Stx own X.K (ext (ext S H1 []) H' []) (offF mv F) (wipeD ρ mv) σ H' := fun H' s => by
      have k1 : ∀ a o, a ∉ A → H1 a = some o → H' a = some o := fun a o n e => s a o (by simp only; rw [if_neg n]; exact e)
      refine y1.on (fun a o e => ?_) (fun j hj a ha => ?_) fun b o t e => k1 b o (fun z => soft b z o e t) e
      · exact k1 a o (fun z => by rw [g1 a z] at e; cases e) (y1.sub a o e)
      · obtain ⟨_, o, e, _⟩ := y1.out j hj a ha
        rw [e]
        exact k1 a o (fun z => g2 j hj a z ha) e
    unfold giveX at o
    rw [hf, R.bind_ok] at o
    cases hz : m ds with
    | st => rw [hz] at o; exact o.elim
    | ex c =>
      rw [hz] at o
      obtain ⟨C, g3, g4⟩ := o
      exact ⟨C, g3, fun H' s => g4 H' ⟨_, _, b.trans ((ext_s (H := H1) []).trans (ext_s [])), back H' s⟩⟩
    | ok d =>
      rw [hz] at o
      intro v H' A' s f' n'
      have offA : ∀ a ∈ A', ∀ o, H1 a = some o → a ∈ A := fun a ha o e => by
        refine Classical.byContradiction fun n => ?_
        have := n' a ha
        simp only at this
        rw [if_neg n, e] at this
        cases this
      refine o v H' ⟨_, _, A', b.trans ((ext_s (H := H1) []).trans (ext_s [])), back H' s, f', fun a ha => ?_, fun j hj a ha z => ?_⟩
      · obtain ⟨o, e1, e2⟩ := f'.soft a ha
        refine ext_none ?_ (fun z => nomatch z) fun o' e => by rw [e1] at e; cases e; exact e2
        cases q : ext S H1 [] a with
        | none => rfl
        | some o' =>
          have := g1 a (offA a ha o' (y1.sub a o' q))
          rw [q] at this; cases this
      · obtain ⟨_, o, e, _⟩ := y1.out j hj a z
        exact g2 j hj a (offA a ha o e) z
/-- a def that only reads, of one thing that was reckoned with effects -/
def callX1 (m : List D → R D) (f : Env → RX D) (ρ : Env) : RX D := (f ρ).bind fun d ρ => liftR (m [d]) ρ
theorem vx_call1 {g : Env → RX D} {ps : List Str} {k k' : Nat} {m : List D → R D} (C : Cal X.prog X.w X.K X.mg X.base x ps k m) (hr : Room k' X.A) (tk : Takes X W) (hg : Gl X x)
    (ha : VX X W own e g) (hl : ps.length = 1 := by rfl) (hk : k ≤ k' := by decide) (hdb : (x == ("__debug__" : Str)) = false := by decide) (he : starEach [e] X.env = (false, eval e X.env) :: starEach [] X.env := by rfl) (hpl : (backTo pos (starEach [] X.env)).any (·.1) = false := by rfl) :
    VX X W own (.Call (.Name x p) [e] [] pos) (callX1 m g) := by
  obtain ⟨f, fd, h1, h2, h3, h4⟩ := C
  refine ⟨peW (pe_callS h4 (hr.mono hk) hg h1 h2 h3 (fun σ => passAt tk σ) (pa_cons ha.pe pa_nil he) hdb he hpl) fun σ H Q ⟨B, ρ, st, o⟩ => ⟨B, ρ, st, ?_⟩⟩
  unfold callX1 at o
  refine (OutX.bind o).mono fun d ρ' _ q v H1 z => ?_
  obtain ⟨S, F, A, b, y, fu, n1, n2⟩ := z
  refine ⟨hl.symm, [d], .cons fu.rd .nil, ?_⟩
  have q := OutX.lift (⟨S, F, b, y⟩ : Sta own B X.K ρ' σ H1) q
  cases hm : m [d] with
  | st => rw [hm] at q; exact q.elim
  | ex c => rw [hm] at q; exact q
  | ok z =>
    rw [hm] at q
    intro v' H' A' s f' n'
    exact q v' H' (Sta.staV ⟨S, F, b, y⟩ s f' n')
/-- a comparison whose first thing was reckoned with effects -/
def cmpX (g : D → D → R D) (f : Env → RX D) (h : Env → R D) (ρ : Env) : RX D := ((f ρ).bind immX).bind fun d ρ => liftR ((h ρ).bind (g d)) ρ
end
end Vs

namespace Vs
open PySem PySem.Spec PyProof.Rows L2

/-! ### a loop that hands out the items of a list of its own -/
def forOL (own1 : List Nat) (t : Nat) (b : Env → Sr) : List D → Env → Sr
  | [], ρ => .nx ρ
  | d :: ds, ρ => match b (ρ.set t (some d)) with
    | .nx ρ2 => forOL own1 t b ds (dropE own1 0 ρ2)
    | .ct ρ2 => forOL own1 t b ds (dropE own1 0 ρ2)
    | .rt d => .rt d
    | _ => .st
def backM (M : List Nat) (ρ0 : Env) : Sr → Sr
  | .nx ρ => .nx (restE M ρ0 ρ)
  | .rt d => .rt d
  | _ => .st
def forO (own1 M : List Nat) (t : Nat) (f : Env → RX D) (b : Env → Sr) (ρ : Env) : Sr := bindX (f ρ) fun d ρ1 => match d with
  | .lst ds => backM M ρ1 (forOL own1 t b ds (wipeD ρ1 M))
  | _ => .st
def pinM (M : List Nat) (f : Nat → Option V) (P : Nat → Option V) (i : Nat) : Option V := if i ∈ M then f i else P i
theorem vs_forO {X : Cx} {W : WX} {own own1 M : List Nat} {ol : Ol} {tg iter : Expr} {body : List Stmt} {f : Env → RX D} {b : Env → Sr} {pos : Pos} (t : Nat)
    (hp : PassesOwn (model X.prog X.w) X.A X.env X.xe) (hc : X.calm = true) (hx : VX X W own iter f) (hg : PG X tg (gName t)) (hb : ∀ fP : Nat → Option V, VSs X W (t :: own1) own1 { l := own1, P := pinM M fP ol.P } body b)
    (ht : t ∉ own1 := by decide) (w : ∀ i ∈ own1, i ∈ own := by decide) (hM : ∀ j ∈ M, j ∉ own := by decide) (htM : t ∉ M := by decide)
    (hs : ∀ x, foldedSetIterable iter X.env x = pure x := by intro _; rfl) (we : ∀ i ∈ ol.e, i ∈ own := by first | decide | (dsimp only; decide)) (hpt : ol.P t = none := by rfl) : VS X W own own1 ol (.For tg iter body [] pos) (forO own1 M t f b) := by
  have hbody : PSs X body (fun D σ H => ∃ fP, tS X.K X.mg W (t :: own1) own1 { l := own1, P := pinM M fP ol.P } b D σ H) := ⟨fun pins s σ H D I ⟨fP, h⟩ => (hb fP).ps.run pins s σ H D I h⟩
  refine ⟨psW (ps_for hp hc (pi_list hx.pe) hg hbody hs) fun D σ H ⟨B, ρ, x, pn, q⟩ => ⟨B, ρ, x, (SEnd.outX pn we q).mono fun d ρ1 _ q v H1 z => ?_⟩⟩
  obtain ⟨S, F, A, bS, y, fu, n1, n2⟩ := z
  cases d with
  | lst ds =>
    cases fu with
    | @lst a vs _ A' hH r na =>
      have hlen : vs.length = ds.length := r.length
      let L := a :: (own.filter (fun i => decide (i ∉ own1))).flatMap F
      have y0 : Stx own1 X.K (ext S H1 L) F ρ1 σ H1 := by
        refine ⟨y.len, ext_h y.sub _, fun a o e t => ext_stt y.sub e t, fun k e q => ?_, fun k m c hc => ?_, fun k mk j mj => y.dis k (w k mk) j (w j mj)⟩
        · obtain ⟨u, h1, h2, h3⟩ := y.val k e q
          refine ⟨u, h1, fun m => h2 (w k m), fun m => ?_⟩
          by_cases mo : k ∈ own
          · exact (h2 mo).ext y.sub fun c hc => List.mem_cons_of_mem _ (List.mem_flatMap.mpr ⟨k, List.mem_filter.mpr ⟨mo, by simpa using m⟩, hc⟩)
          · exact (h3 mo).mono (ext_s _)
        · obtain ⟨h1, o, h2, h3⟩ := y.out k (w k m) c hc
          refine ⟨ext_none h1 (fun z => ?_) fun o' e => by rw [h2] at e; cases e; exact h3, o, h2, h3⟩
          rcases List.mem_cons.mp z with z | z
          · subst z
            exact n2 k (w k m) _ List.mem_cons_self hc
          · obtain ⟨j, hj, hz⟩ := List.mem_flatMap.mp z
            obtain ⟨hj1, hj2⟩ := List.mem_filter.mp hj
            have hj2 : j ∉ own1 := by simpa using hj2
            exact y.dis k (w k m) j hj1 (fun e => hj2 (e ▸ m)) c hc hz
      have sS : Same S (ext S H1 L) := ext_s _
      have ea : ext S H1 L a = some (.lst vs) := ext_at y.sub hH List.mem_cons_self
      have offL : ∀ c ∈ A', ext S H1 L c = none := fun c hc => by
        obtain ⟨o, h2, h3⟩ := r.soft c hc
        refine ext_none (n1 c (List.mem_cons_of_mem _ hc)) (fun z => ?_) fun o' e => by rw [h2] at e; cases e; exact h3
        rcases List.mem_cons.mp z with z | z
        · exact na (z ▸ hc)
        · obtain ⟨j, hj, hz⟩ := List.mem_flatMap.mp z
          exact n2 j (List.mem_filter.mp hj).1 c (List.mem_cons_of_mem _ hc) hz
      generalize ext S H1 L = S0 at y0 sS ea offL
      let fP : Nat → Option V := fun j => (σ[j]?).getD none
      have hfP : ∀ j v, fP j = some v ↔ σ[j]? = some (some v) := fun j v => by
        show (σ[j]?).getD none = some v ↔ _
        cases σ[j]? with
        | none => simp
        | some o => simp
      have pn0 : Pin (pinM M fP ol.P) σ := fun j v e => by
        unfold pinM at e
        split at e
        · exact (hfP j v).mp e
        · exact pn j v e
      let Iv : Nat → L2.St → Hp → Prop := fun i σ2 H2 => ∃ ρ2 S2 F2 A2, Same S0 S2 ∧ Stx own1 X.K S2 F2 ρ2 σ2 H2 ∧ Fus X.K H2 (vs.drop i) (ds.drop i) A2 ∧ (∀ c ∈ A2, S2 c = none) ∧ (∀ j ∈ own1, ∀ c ∈ A2, c ∉ F2 j) ∧ Pin (pinM M fP ol.P) σ2 ∧ SEnd X.K X.mg W own1 ol B D (backM M ρ1 (forOL own1 t b (ds.drop i) ρ2))
      refine ⟨a, rfl, ⟨vs, SqL.of hH⟩, fun i m σ2 H2 => m = ds.length - i ∧ i ≤ ds.length ∧ Iv i σ2 H2, ⟨ds.length, by simp, Nat.zero_le _, wipeD ρ1 M, S0, offF M F, A', Same.refl _, y0.off M, r, offL, fun j hj c hc z => n2 j (w j hj) c (List.mem_cons_of_mem _ hc) (offF_mem z).2, pn0, q⟩, ?_⟩
      rintro i m σ2 H2 ⟨rfl, hi, ρ2, S2, F2, A2, s2, x2, r2, o2, d2, pn2, q2⟩
      have hq : SqL X.K H2 a vs := SqL.of (x2.sub _ _ (s2 _ _ ea))
      by_cases hlt : i < ds.length
      · have hlv : i < vs.length := by omega
        rw [List.drop_eq_getElem_cons hlt, List.drop_eq_getElem_cons hlv] at r2
        rw [List.drop_eq_getElem_cons hlt] at q2
        cases r2 with
        | @cons _ _ _ _ A1 A3 f1 r3 m1 =>
          refine .inr ⟨⟨vs, vs[i], hq, List.getElem?_eq_getElem hlv⟩, Iv (i + 1), fun σ' H' y => ⟨ds.length - (i + 1), by omega, rfl, hlt, y⟩, fun u H3 yl => ?_⟩
          obtain ⟨rfl, yl⟩ := yl
          have eu := yl vs hq
          rw [List.getElem?_eq_getElem hlv] at eu
          cases eu
          have sB3 : Same S2 (ext S2 H3 A3) := ext_s _
          have hT3 : ∀ c ∈ A3, ∀ o, H3 c = some o → ext S2 H3 A3 c = some o := fun c hc o e => ext_at x2.sub e hc
          have x3 : Stx (t :: own1) X.K (ext S2 H3 A3) (fun j => if j = t then A1 else F2 j) (ρ2.set t (some ds[i])) (σ2.set t (some vs[i])) H3 := by
            have off3 : ∀ j ∈ own1, ∀ c ∈ F2 j, c ∉ A3 := fun j hj c hc z => d2 j hj c (List.mem_append_right _ z) hc
            refine ⟨by rw [List.length_set, List.length_set]; exact x2.len, ext_h x2.sub _, fun a o e t => ext_stt x2.sub e t, fun j e qj => ?_, fun j mj c hc => ?_, fun j mj k mk ne c hc => ?_⟩
            · rcases get_set qj with ⟨rfl, e1, hl⟩ | ⟨ne, qj⟩
              · cases e1
                refine ⟨vs[i], by rw [List.getElem?_set_self (by rw [← x2.len]; exact hl)], fun _ => ?_, fun m => absurd List.mem_cons_self m⟩
                rw [if_pos rfl]; exact f1
              · obtain ⟨u, h1, h2, h3⟩ := x2.val j e qj
                refine ⟨u, by rw [List.getElem?_set_ne (Ne.symm ne)]; exact h1, fun m => ?_, fun m => (h3 fun z => m (List.mem_cons_of_mem _ z)).mono sB3⟩
                rw [if_neg ne]
                exact h2 ((List.mem_cons.mp m).resolve_left ne)
            · by_cases e : j = t
              · rw [if_pos e] at hc
                obtain ⟨o, h2, h3⟩ := f1.soft c hc
                exact ⟨ext_none (o2 c (List.mem_append_left _ hc)) (m1 c hc) fun o' e => by rw [h2] at e; cases e; exact h3, o, h2, h3⟩
              · rw [if_neg e] at hc
                have mj' := (List.mem_cons.mp mj).resolve_left e
                obtain ⟨h1, o, h2, h3⟩ := x2.out j mj' c hc
                exact ⟨ext_none h1 (off3 j mj' c hc) fun o' e => by rw [h2] at e; cases e; exact h3, o, h2, h3⟩
            · intro hk
              by_cases ej : j = t
              · rw [if_pos ej] at hc
                have ek : k ≠ t := fun z => ne (ej.trans z.symm)
                rw [if_neg ek] at hk
                exact d2 k ((List.mem_cons.mp mk).resolve_left ek) c (List.mem_append_left _ hc) hk
              · rw [if_neg ej] at hc
                by_cases ek : k = t
                · rw [if_pos ek] at hk
                  exact d2 j ((List.mem_cons.mp mj).resolve_left ej) c (List.mem_append_left _ hk) hc
                · rw [if_neg ek] at hk
                  exact x2.dis j ((List.mem_cons.mp mj).resolve_left ej) k ((List.mem_cons.mp mk).resolve_left ek) ne c hc hk
          have next : ∀ (ρ5 : Env) (σ' : L2.St) (H' : Hp), SEnd X.K X.mg W own1 ol B D (backM M ρ1 (forOL own1 t b (ds.drop (i + 1)) (dropE own1 0 ρ5))) → Sta own1 (ext S2 H3 A3) X.K ρ5 σ' H' → Pin (pinM M fP ol.P) σ' → Iv (i + 1) σ' H' := by
            intro ρ5 σ' H' q5 ⟨S', F', s', x'⟩ pz
            have kept : ∀ c ∈ A3, ∃ o, H3 c = some o ∧ S' c = some o ∧ H' c = some o ∧ ¬ Stt o := fun c hc => by
              obtain ⟨o, h2, h3⟩ := r3.soft c hc
              have := s' c o (hT3 c hc o h2)
              exact ⟨o, h2, this, x'.sub c o this, h3⟩
            classical
            refine ⟨dropE own1 0 ρ5, fun c => if c ∈ A3 then none else S' c, F', A3, fun c o e => ?_, ⟨by rw [dropE_length]; exact x'.len, fun c o e => ?_, fun c o e t => ?_, fun k d qk => ?_, fun k mk c hc => ?_, x'.dis⟩, r3.at (fun c hc => ?_) fun b o t e => ?_, fun c hc => ?_, fun j hj c hc z => ?_, pz, q5⟩
            · have e2 := s2 c o e
              simp only
              rw [if_neg fun z => by rw [o2 c (List.mem_append_right _ z)] at e2; cases e2]
              exact s' c o (sB3 c o e2)
            · split at e
              · cases e
              · exact x'.sub c o e
            · rw [if_neg fun z => ?_]
              · exact x'.cl c o e t
              · obtain ⟨o', _, _, h3, h4⟩ := kept c z
                rw [e] at h3
                cases h3
                exact h4 t
            · rw [dropE_get, Nat.zero_add] at qk
              cases e0 : ρ5[k]? with
              | none => rw [e0] at qk; cases qk
              | some o =>
                rw [e0] at qk
                have qk : keepO (decide (k ∈ own1)) o = some d := Option.some.inj qk
                cases o with
                | none => cases qk
                | some d0 =>
                  unfold keepO at qk
                  simp only at qk
                  split at qk
                  · rename_i cond
                    cases qk
                    obtain ⟨u, h1, h2, h3⟩ := x'.val k d e0
                    refine ⟨u, h1, h2, fun mk => ?_⟩
                    have im : immD d = true := by
                      rw [decide_eq_false mk] at cond
                      simpa using cond
                    refine (h3 mk).imm im fun b o t e => ?_
                    show (if b ∈ A3 then none else S' b) = some o
                    rw [if_neg fun z => ?_]
                    · exact e
                    · obtain ⟨o', _, g2, _, g4⟩ := kept b z
                      rw [e] at g2
                      cases g2
                      exact g4 t
                  · cases qk
            · obtain ⟨h1, o, h2, h3⟩ := x'.out k mk c hc
              refine ⟨?_, o, h2, h3⟩
              split
              · rfl
              · exact h1
            · obtain ⟨o, h1, _, h3, _⟩ := kept c hc
              rw [h1, h3]
            · exact x'.sub b o (s' b o (ext_stt x2.sub e t))
            · exact if_pos hc
            · obtain ⟨o, _, h2, _, _⟩ := kept c hc
              rw [(x'.out j hj c z).1] at h2; cases h2
          refine ⟨fP, ext S2 H3 A3, ρ2.set t (some ds[i]), ⟨_, _, Same.refl _, x3⟩, pn2.set (by unfold pinM; rw [if_neg htM]; exact hpt), ?_⟩
          unfold forOL at q2
          have bB : Same B (ext S2 H3 A3) := bS.trans (sS.trans (s2.trans sB3))
          cases eb : b (ρ2.set t (some ds[i])) with
          | nx ρ5 => rw [eb] at q2; exact fun σ' H' z pz => next ρ5 σ' H' q2 z pz
          | ct ρ5 => rw [eb] at q2; exact fun σ' H' z pz => next ρ5 σ' H' q2 z pz
          | rt e =>
            rw [eb] at q2
            have q2 : ∀ v H A, Same B H → Fu X.K H v e A → (∀ a ∈ A, B a = none) → D.rt v H := q2
            exact fun v H A s f n => q2 v H A (bB.trans s) f fun a m => bB.free (n a m)
          | bk ρ5 => rw [eb] at q2; exact q2.elim
          | rb e ρ5 => rw [eb] at q2; exact q2.elim
          | st => rw [eb] at q2; exact q2.elim
          | ex c ρ5 => rw [eb] at q2; exact q2.elim
      · have e : i = ds.length := by omega
        subst e
        rw [List.drop_length] at q2
        have q2 : ∀ σ H, Sta own1 B X.K (restE M ρ1 ρ2) σ H → Pin ol.P σ → D.nx σ H := q2
        refine .inl ⟨⟨vs, hq, by omega⟩, q2 σ2 H2 ⟨S2, F2, bS.trans (sS.trans s2), ⟨by unfold restE; rw [setsE_length]; exact x2.len, x2.sub, x2.cl, fun k e qk => ?_, x2.out, x2.dis⟩⟩ fun j v e => ?_⟩
        · have hk : k < ρ2.length := by
            obtain ⟨h, _⟩ := List.getElem?_eq_some_iff.mp qk
            unfold restE at h
            rw [setsE_length] at h
            exact h
          by_cases mk : k ∈ M
          · unfold restE at qk
            rw [setsE_in mk hk] at qk
            have e1 : ρ1[k]? = some (some e) := by
              cases z : ρ1[k]? with
              | none => rw [z] at qk; cases qk
              | some o => rw [z] at qk; simpa using qk
            obtain ⟨u, h1, _, h3⟩ := y.val k e e1
            have h4 := pn2 k u (by unfold pinM; rw [if_pos mk]; exact (hfP k u).mpr h1)
            exact ⟨u, h4, fun m => absurd (w k m) (hM k mk), fun _ => (h3 (hM k mk)).mono (sS.trans s2)⟩
          · unfold restE at qk
            rw [setsE_out mk] at qk
            exact x2.val k e qk
        · by_cases mj : j ∈ M
          · exact pn2 j v (by unfold pinM; rw [if_pos mj]; exact (hfP j v).mpr (pn j v e))
          · exact pn2 j v (by unfold pinM; rw [if_neg mj]; exact e)
  | _ => exact q.elim
end Vs

namespace Vs
open PySem PySem.Spec PyProof.Rows L2

/-! ### a tuple so many times; a tuple and a new one behind it -/
def mulTD : D → D → R D
  | .tup xs, .int k => if 0 < xs.length ∧ 2 ≤ k ∧ k ≤ 1000 ∧ xs.length ≤ 1000 ∧ immDs xs = true then .ok (.tup (List.replicate k.toNat xs).flatten) else .st
  | _, _ => .st
theorem d_mulT {X : Cx} : OpD X (rRepT X.K) mulTD := fun x y d e H Q z rx ry h q => by
  unfold mulTD at h
  split at h
  · split at h
    · rename_i c
      cases h
      cases ry
      cases rx with
      | tup h1 r1 =>
        refine ⟨_, _, _, rfl, rfl, h1.sq, fun e => ?_, c.2.1, c.2.2.1, by rw [r1.length]; exact c.2.2.2.1, fun p hp => q _ _ [] (new_same hp) (fu_new_tup hp (r1.flat _) (immDs_flat c.2.2.2.2 _)) (fun _ h => nomatch h)⟩
        have := r1.length
        rw [e] at this
        have c1 := c.1
        simp at this
        omega
    · cases h
  · cases h
theorem nx_mulT : NoEx2 mulTD := fun d e c h => by unfold mulTD at h; split at h <;> first | cases h | (split at h <;> cases h)
def catTG : D → D → R D
  | .tup xs, .tup ys => if xs.length + ys.length ≤ sizeLine ∧ immDs xs = true ∧ 0 < xs.length ∧ 0 < ys.length then .ok (.tup (xs ++ ys)) else .st
  | _, _ => .st
theorem vg_catT {X : Cx} {W : WX} {a b : Expr} {f g : Env → R D} {pos : Pos} (ha : VE X W a f) (hb : VG X W b g) : VG X W (.BinOp a .Add b pos) (op2 catTG f g) := ⟨peW (pe_op op_addA ha.pe hb.pe) fun σ H Q ⟨ρ, re, o⟩ => ⟨ρ, re, (Out.bind o).mono fun d _ q v H1 s1 r1 => ⟨ρ, re.mono s1, ((Out.bind q).up s1).mono fun e _ q w H2 A s2 f2 n2 => by
  unfold catTG at q
  split at q
  · split at q
    · rename_i c
      cases r1 with
      | tup h1 r1 =>
        cases f2 with
        | tup h2 r2 =>
          have l1 := r1.length
          have l2 := r2.length
          refine .inr (.inr (.inr ⟨_, _, _, _, rfl, rfl, (seqT s2 h1).sq, h2.sq, by rw [l1, l2]; exact c.1, fun e => ?_, fun _ e => ?_, fun _ _ p hp => ?_⟩))
          · have c1 := c.2.2.1
            rw [e] at l1
            simp at l1
            omega
          · have c1 := c.2.2.2
            rw [e] at l2
            simp at l2
            omega
          · have fx := fun vs => ((r1.mono s2).mono (new_same (o := .tup vs) hp)).fu c.2.1
            exact q _ _ A ((s1.trans s2).trans (new_same hp)) (.tup (.inl upd_same) ((fx _).app (r2.same (new_same hp)) (fun _ z => nomatch z))) fun a ha => s1.free (n2 a ha)
    · exact q.elim
  · exact q.elim⟩⟩⟩

/-! ### x.insert(i, y) -/
theorem Fus.part {K : PySem.W.Frag} {H : Hp} : ∀ (n : Nat) {vs : List V} {ds : List D} {A : List Addr}, Fus K H vs ds A → ∃ A1 A2, Fus K H (vs.take n) (ds.take n) A1 ∧ Fus K H (vs.drop n) (ds.drop n) A2 ∧ (∀ a ∈ A1, a ∈ A) ∧ (∀ a ∈ A2, a ∈ A) ∧ ∀ a ∈ A1, a ∉ A2
  | 0, _, _, A, f => ⟨[], A, .nil, f, (fun _ h => nomatch h), (fun _ h => h), (fun _ h => nomatch h)⟩
  | _ + 1, _, _, _, .nil => ⟨[], [], .nil, .nil, (fun _ h => nomatch h), (fun _ h => nomatch h), (fun _ h => nomatch h)⟩
  | n + 1, _, _, _, @Fus.cons _ _ v vs d ds A B h r m => by
    obtain ⟨A1, A2, g1, g2, g3, g4, g5⟩ := Fus.part n r
    refine ⟨A ++ A1, A2, .cons h g1 fun a ha hb => m a ha (g3 a hb), g2, fun a ha => ?_, fun a ha => List.mem_append_right _ (g4 a ha), fun a ha hb => ?_⟩
    · rcases List.mem_append.mp ha with z | z
      · exact List.mem_append_left _ z
      · exact List.mem_append_right _ (g3 a z)
    · rcases List.mem_append.mp ha with z | z
      · exact m a z (g4 a hb)
      · exact g5 a z hb
def rInsert : V → List V → Hp → VK → Prop := fun x vs H Q => ∃ (l : Addr) (xs : List V) (i : Int) (y : V), x = .ref l ∧ vs = [.int i, y] ∧ H l = some (.lst xs) ∧ xs.length < sizeLine ∧ 0 ≤ i ∧ i < 2 ^ 63 ∧
    Q .non (upd H l (.lst (xs.take i.toNat ++ [y] ++ xs.drop i.toNat)))
theorem mt_insertM {X : Cx} : MtM X "list.insert" rInsert := mt_insert
def insS (i : Nat) (fk fe : Env → R D) (ρ : Env) : Sr := match ρ[i]? with
  | some (some (.lst ds)) => bindS (fk ρ) ρ fun k => match k with
    | .int n => bindS (fe ρ) ρ fun d => if ds.length < sizeLine ∧ 0 ≤ n ∧ n < 2 ^ 63 then .nx (ρ.set i (some (.lst (ds.take n.toNat ++ [d] ++ ds.drop n.toNat)))) else .st
    | _ => .st
  | _ => .st
def popAtS (i : Nat) (fk : Env → R D) (ρ : Env) : Sr := match ρ[i]? with
  | some (some (.lst ds)) => bindS (fk ρ) ρ fun k => match k with
    | .int n => if immDs ds = true ∧ 0 ≤ n ∧ n < ds.length ∧ n < 2 ^ 63 then .nx (ρ.set i (some (.lst (ds.eraseIdx n.toNat)))) else .st
    | _ => .st
  | _ => .st
section
variable {X : Cx} {W : WX} {own own' : List Nat} {ol : Ol} {st : Stmt} {f fk fe : Env → R D}
theorem vs_insert (i : Nat) (p : PS X st (tDrop (tBM X.K "list" rInsert (tVar i) (tCons (tF X.K X.mg W fk) (tCons (tG X.K X.mg W fe) tNil))))) (hi : i ∈ own := by decide) (we : ∀ i ∈ ol.e, i ∈ own := by first | decide | (dsimp only; decide)) : VS X W own own ol st (insS i fk fe) := ⟨psW p fun D σ H ⟨B, ρ, x, pn, q⟩ => by
  unfold insS at q
  split at q
  · rename_i ds ei
    have q := SEnd.out x pn we q
    have xs0 := x
    obtain ⟨S, F, b, y⟩ := x
    obtain ⟨v, h1, h2, _⟩ := y.val i _ ei
    obtain ⟨pa, vs, A', rfl, eF, hp, r, n⟩ := (h2 hi).list
    refine ⟨_, h1, .inl ⟨rfl, _, .inl (.inl hp)⟩, ρ, y.env, q.mono fun k _ q w0 H0 s0 r0 => ?_⟩
    cases r0 with
    | int m =>
      have y0 := y.grow s0 (A := []) (fun _ z => nomatch z)
      have q := SEnd.out (xs0.grow s0) pn we q
      refine ⟨ρ, y0.env, q.mono fun d _ q w H1 C s1 f1 n1 => ?_⟩
      by_cases hz : ds.length < sizeLine ∧ 0 ≤ m ∧ m < 2 ^ 63
      rotate_left
      · rw [if_neg hz] at q; exact q.elim
      rw [if_pos hz] at q
      have hp0 := s0 _ _ hp
      refine ⟨pa, vs, m, w, rfl, rfl, s1 _ _ hp0, by rw [r.length]; exact hz.1, hz.2.1, hz.2.2, ?_⟩
      have y1 := y0.grow s1 (A := []) (fun _ z => nomatch z)
      have mp : pa ∈ F i := by rw [eF]; exact List.mem_cons_self
      have fr := y0.fresh s1 f1 n1
      have hpq : ∃ o, H1 pa = some o ∧ ¬ Stt o := ⟨_, s1 _ _ hp0, fun z => (show False from z)⟩
      have nC : pa ∉ C := fun z => by have := n1 pa z; rw [hp0] at this; cases this
      obtain ⟨A1, A2, g1, g2, g3, g4, g5⟩ := Fus.part m.toNat ((r.same s0).same s1)
      have offC : ∀ a ∈ A', a ∉ C := fun a ha hb => (fr a hb).2 i hi (by rw [eF]; exact List.mem_cons_of_mem _ ha)
      have r1 : Fus X.K H1 (vs.take m.toNat ++ [w] ++ vs.drop m.toNat) (ds.take m.toNat ++ [d] ++ ds.drop m.toNat) (A1 ++ (C ++ []) ++ A2) := (g1.app (.cons f1 .nil fun _ _ z => nomatch z) fun a ha hb => by
        rw [List.append_nil] at hb
        exact offC a (g3 a ha) hb).app g2 fun a ha hb => by
          rcases List.mem_append.mp ha with z | z
          · exact g5 a z hb
          · rw [List.append_nil] at z
            exact offC a (g4 a hb) z
      rw [List.append_nil] at r1
      have n2 : pa ∉ A1 ++ C ++ A2 := fun z => by
        rcases List.mem_append.mp z with z | z
        · rcases List.mem_append.mp z with z | z
          · exact n (g3 pa z)
          · exact nC z
        · exact n (g4 pa z)
      refine q _ _ ⟨_, _, b.trans ((ext_s (H := H0) []).trans (ext_s [])), y1.mut hi h1 hpq (y1.out i hi pa mp).1 (fun j m ne z => y.dis j m i hi ne pa z mp) (fun z => (show False from z)) (fu_relist hpq r1 n2) fun a ha => ?_⟩ pn
      have old : ∀ a, a ∈ F i → ext (ext S H0 []) H1 [] a = none ∧ ∀ j ∈ own, j ≠ i → a ∉ F j := fun a hm => ⟨(y1.out i hi a hm).1, fun j m ne z' => y.dis j m i hi ne a z' hm⟩
      rcases List.mem_cons.mp ha with z | z
      · rw [z]
        exact old pa mp
      · rcases List.mem_append.mp z with z | z
        · rcases List.mem_append.mp z with z | z
          · exact old a (by rw [eF]; exact List.mem_cons_of_mem _ (g3 a z))
          · exact ⟨(fr a z).1, fun j m _ => (fr a z).2 j m⟩
        · exact old a (by rw [eF]; exact List.mem_cons_of_mem _ (g4 a z))
    | _ => exact q.elim
  · exact q.elim⟩
theorem seqIndex_nat {i : Int} {l : Nat} (h0 : 0 ≤ i) (h : i < l) : seqIndex? i l = some i.toNat := by
  unfold seqIndex?
  have n : ¬ i < 0 := by omega
  simp [n, h0, h]
theorem Rds.eraseIdx {K : PySem.W.Frag} {H : Hp} : ∀ (n : Nat) {vs : List V} {ds : List D}, Rds K H vs ds → Rds K H (vs.eraseIdx n) (ds.eraseIdx n)
  | _, _, _, .nil => .nil
  | 0, _, _, .cons _ r => r
  | n + 1, _, _, .cons h r => .cons h (Rds.eraseIdx n r)
theorem immDs_erase : ∀ (n : Nat) {ds : List D}, immDs ds = true → immDs (ds.eraseIdx n) = true
  | _, [], h => h
  | 0, x :: ds, h => by
    rw [immDs, Bool.and_eq_true] at h
    exact h.2
  | n + 1, x :: ds, h => by
    rw [immDs, Bool.and_eq_true] at h
    show (immD x && immDs (ds.eraseIdx n)) = true
    rw [h.1, immDs_erase n h.2]
    rfl
theorem vs_popAt (i : Nat) (p : PS X st (tDrop (tBM X.K "list" rPopAt (tVar i) (tCons (tF X.K X.mg W fk) tNil)))) (hi : i ∈ own := by decide) (we : ∀ i ∈ ol.e, i ∈ own := by first | decide | (dsimp only; decide)) : VS X W own own ol st (popAtS i fk) := ⟨psW p fun D σ H ⟨B, ρ, x, pn, q⟩ => by
  unfold popAtS at q
  split at q
  · rename_i ds ei
    have q := SEnd.out x pn we q
    obtain ⟨S, F, b, y⟩ := x
    obtain ⟨v, h1, h2, _⟩ := y.val i _ ei
    obtain ⟨pa, vs, A', rfl, eF, hp, r, n⟩ := (h2 hi).list
    refine ⟨_, h1, .inl ⟨rfl, _, .inl (.inl hp)⟩, ρ, y.env, q.mono fun k _ q w0 H0 s0 r0 => ?_⟩
    cases r0 with
    | int m =>
      simp only at q
      by_cases hz : immDs ds = true ∧ 0 ≤ m ∧ m < ds.length ∧ m < 2 ^ 63
      rotate_left
      · rw [if_neg hz] at q; exact q.elim
      rw [if_pos hz] at q
      obtain ⟨im, z0, z1, z2⟩ := hz
      have hl := r.length
      have hp0 := s0 _ _ hp
      have hk : m.toNat < vs.length := by omega
      have e63 : (2 : Int) ^ 63 = 9223372036854775808 := by decide
      refine ⟨pa, vs, m, m.toNat, vs[m.toNat], rfl, rfl, hp0, by rw [e63]; omega, z2, seqIndex_nat z0 (by omega), List.getElem?_eq_getElem hk, ?_⟩
      have y1 := y.grow s0 (A := []) (fun _ z => nomatch z)
      have mp : pa ∈ F i := by rw [eF]; exact List.mem_cons_self
      have hpq : ∃ o, H0 pa = some o ∧ ¬ Stt o := ⟨_, hp0, fun z => (show False from z)⟩
      have r1 : Fus X.K H0 (vs.eraseIdx m.toNat) (ds.eraseIdx m.toNat) [] := ((r.rd.mono s0).eraseIdx m.toNat).fu (immDs_erase _ im)
      refine q _ _ ⟨_, _, b.trans (ext_s []), y1.mut hi h1 hpq (y1.out i hi pa mp).1 (fun j m ne z => y.dis j m i hi ne pa z mp) (fun z => (show False from z)) (fu_relist hpq r1 (fun z => nomatch z)) fun a ha => ?_⟩ pn
      rcases List.mem_cons.mp ha with z | z
      · rw [z]
        exact ⟨(y1.out i hi pa mp).1, fun j m ne z' => y.dis j m i hi ne pa z' mp⟩
      · cases z
    | _ => exact q.elim
  · exact q.elim⟩
end
end Vs

namespace Vs
open PySem PySem.Spec PyProof.Rows L2

/-! ### what stands in a frozen list stays frozen -/
def shal : D → D
  | .fz xs => .lst xs
  | d => d
theorem Rd.shal {K : PySem.W.Frag} {H : Hp} {v : V} {d : D} (r : Rd K H v d) : Rd K H v (Vs.shal d) := by
  cases r with
  | fz h r => exact .lst (.inl (.inr ⟨_, h⟩)) r
  | non => exact .non
  | bl b => exact .bl b
  | int i => exact .int i
  | str x => exact .str x
  | fn n => exact .fn n
  | exc c a => exact .exc c a
  | lst h r => exact .lst h r
  | tup h r => exact .tup h r
  | dk h q r => exact .dk h q r
  | dt h q r => exact .dt h q r
  | obj h h2 n q r => exact .obj h h2 n q r
def shalE (f : Env → R D) (ρ : Env) : R D := (f ρ).bind fun d => .ok (shal d)
section
variable {X : Cx} {W : WX} {e : Expr} {f : Env → R D} {own : List Nat}
theorem VE.shal (v : VE X W e f) : VE X W e (shalE f) := ⟨peW v.pe fun σ H Q ⟨ρ, r, o⟩ => ⟨ρ, r, (Out.bind o).mono fun d _ q v H' s rd => q v H' s rd.shal⟩⟩
theorem VP.shal (v : VP X W own e f) : VP X W own e (shalE f) := ⟨peW v.pe fun σ H Q ⟨ρ, S, F, st, o⟩ => ⟨ρ, S, F, st, (Out.bind o).mono fun d _ q v H' A s n rd => q v H' A s n rd.shal⟩⟩
end
end Vs
namespace Vs
open PySem PySem.Spec PyProof.Rows L2
/-! ### isinstance(e, (x, y, ..)), e the caught error -/
def rIsET (K : PySem.W.Frag) (D a : Addr) : List V → Hp → VK → Prop := fun xs H Q => ∃ (tp : Addr) (cs : List V) (us : List Value) (b : Bool), xs = [.ref a, .ref tp] ∧ H tp = some (.tup cs) ∧ Paired ClsV cs us ∧ PySem.W.kitAny K (.ref D) us = some b ∧ Q (.bl b) H
theorem call_isET {X : Cx} {a D : Addr} {oe : Obj} {pn : List (Addr × Obj)} (C : ExcC X.K D) (hz : Zc (.ref D) none oe) (hf : ∃ vs, oe.data = .fields vs) : CallR (X.suite a ((a, oe) :: pn)) (.builtin "isinstance") (rIsET X.K D a) := by
  intro pins s σ H xs us Q I r h
  obtain ⟨tp, cs, ws, b, rfl, hT, k, e, q⟩ := h
  obtain ⟨u1, u2, rfl, r1, r2⟩ := vals2 r
  cases (show u2 = Value.ref tp from r2)
  cases (show u1 = Value.ref a from r1)
  obtain ⟨hget, _⟩ := I.pin (a, oe) (List.mem_append.mpr (.inl List.mem_cons_self))
  obtain ⟨vs, hv⟩ := hf
  have J : PySem.W.InstAt s.heap a oe D none := by
    obtain ⟨oc, od, oda, osl⟩ := oe
    obtain ⟨h1, h2⟩ := hz
    dsimp only at h1 h2 hv
    subst h1 h2 hv
    exact ⟨hget, rfl, rfl, trivial⟩
  obtain ⟨_, its, rv, o, h1, h2, n, h3⟩ := (show ObjOk X.prog X.w H s.heap tp (.tup cs) from I.hok tp _ hT)
  have e3 := ClsV.all k rv
  subst e3
  obtain ⟨oc, od, dt, sl⟩ := o
  simp only at h2 h3
  subst h2 h3
  exact PySem.W.kia_tup (PySem.W.handS_kitx_exc C.hg C.hk C.hs C.hd C.ha C.hn C.ht C.hm) I.kIn J h1 e (fun z => nomatch z) fun tk => ⟨.bl b, H, I.kept (t' := tk) fun _ _ z => z, rfl, q⟩
structure VCs (X : Cx) (es : List Expr) (xs : List Str) : Prop where
  ex : ∃ (cs : List V) (us : List Value), PA X es (fun _ H Q => Q cs H) ∧ Paired ClsV cs us ∧ Paired (fun (x : Str) (cv : Value) => X.mg x = some cv ∨ (X.mg x = none ∧ bootBuiltins x = some cv)) xs us
theorem vcs_nil {X : Cx} : VCs X [] [] := ⟨[], [], paW pa_nil fun σ H Q q => q, .nil, .nil⟩
theorem vcs_own {X : Cx} {es : List Expr} {x : Str} {xs : List Str} {p : Pos} (hgx : Gl X x) (hx : ∃ C, X.mg x = some (.ref C)) (hr : VCs X es xs) (hdb : (x == ("__debug__" : Str)) = false := by decide) (hs : starEach (.Name x p :: es) X.env = (false, eval (.Name x p) X.env) :: starEach es X.env := by rfl) : VCs X (.Name x p :: es) (x :: xs) := by
  obtain ⟨cs, us, h1, h2, h3⟩ := hr
  obtain ⟨C, hC⟩ := hx
  exact ⟨.ref C :: cs, .ref C :: us, paW (pa_cons (pe_glob (v := .ref C) hgx hC rfl hdb) h1 hs) fun σ H Q q => q, .cons (.own C) h2, .cons (.inl hC) h3⟩
def isXRs (tb : List (Str × List (Str × Bool))) (c : Str) : List Str → R D
  | [] => .ok (.bl false)
  | x :: xs => match isXR tb c x, isXRs tb c xs with
    | .ok (.bl b), .ok (.bl b') => .ok (.bl (b || b'))
    | _, _ => .st
theorem isXRs_ok {tb : List (Str × List (Str × Bool))} {c : Str} {K : PySem.W.Frag} {mg : Str → Option Value} {C : Addr} (T : IsT K mg tb) (hc : mg c = some (.ref C)) : ∀ {xs : List Str} {us : List Value}, Paired (fun (x : Str) (cv : Value) => mg x = some cv ∨ (mg x = none ∧ bootBuiltins x = some cv)) xs us →
    isXRs tb c xs = .st ∨ ∃ b, isXRs tb c xs = .ok (.bl b) ∧ PySem.W.kitAny K (.ref C) us = some b ∧ (xs ≠ [] → ExcC K C)
  | _, _, .nil => .inr ⟨false, rfl, rfl, fun z => absurd rfl z⟩
  | _, _, @Paired.cons _ _ _ x cv xs us h r => by
    unfold isXRs
    rcases isXR_ok (c := c) (x := x) T with e | ⟨b, e, C', cv', h1, h2, h3, h4⟩
    · rw [e]
      exact .inl rfl
    · rw [hc] at h1
      cases h1
      have ecv : cv' = cv := by
        rcases h with h | ⟨h, h'⟩ <;> rcases h3 with q | ⟨q, q'⟩
        · rw [h] at q; cases q; rfl
        · rw [h] at q; cases q
        · rw [h] at q; cases q
        · rw [h'] at q'; cases q'; rfl
      subst ecv
      rw [e]
      rcases isXRs_ok T hc r with e2 | ⟨b', e2, k2, _⟩
      · rw [e2]
        exact .inl rfl
      · rw [e2]
        refine .inr ⟨b || b', rfl, ?_, fun _ => h2⟩
        unfold PySem.W.kitAny
        rw [h4]
        cases b with
        | true => rfl
        | false => exact k2
theorem paired_len {α β : Type} {F : α → β → Prop} : ∀ {xs : List α} {ys : List β}, Paired F xs ys → xs.length = ys.length
  | _, _, .nil => rfl
  | _, _, .cons _ r => by rw [List.length_cons, List.length_cons, paired_len r]
theorem vg_isEN {X : Cx} {W : WX} {C a : Addr} {oe : Obj} {pn : List (Addr × Obj)} {tb : List (Str × List (Str × Bool))} {c n : Str} {xs : List Str} {es : List Expr} {k : Nat} {p p1 p2 pos : Pos} {i : Nat} (T : IsT X.K X.mg tb) (hc : X.mg c = some (.ref C)) (hz : Zc (.ref C) none oe) (hf : ∃ vs, oe.data = .fields vs)
    (hg : Gl (X.suite a ((a, oe) :: pn)) "isinstance") (hm : X.mg "isinstance" = none) (pv : PE (X.suite a ((a, oe) :: pn)) (.Name n p1) (tVar i)) (hcs : VCs (X.suite a ((a, oe) :: pn)) es xs) (hl : xs.length ≤ 1000 := by decide) (hne : xs ≠ [] := by exact List.cons_ne_nil _ _)
    (he : starEach [.Name n p1, .Tuple es k p2] (X.suite a ((a, oe) :: pn)).env = (false, eval (.Name n p1) X.env) :: starEach [.Tuple es k p2] X.env := by rfl) (he2 : starEach [.Tuple es k p2] (X.suite a ((a, oe) :: pn)).env = [(false, eval (.Tuple es k p2) X.env)] := by rfl) (hpl : (backTo pos (starEach [.Tuple es k p2] (X.suite a ((a, oe) :: pn)).env)).any (·.1) = false := by rfl) :
    VG (X.suite a ((a, oe) :: pn)) W (.Call (.Name "isinstance" p) [.Name n p1, .Tuple es k p2] [] pos) (isE i a (isXRs tb c xs)) := by
  obtain ⟨cs, us, h1, h2, h3⟩ := hcs
  rcases isXRs_ok (c := c) T hc h3 with e | ⟨b, e, hk, hC⟩
  · refine ⟨⟨fun pins s σ H Q I ⟨ρ, re, q⟩ => ?_⟩⟩
    unfold isE at q
    rw [e] at q
    exfalso
    split at q
    · split at q
      · exact q
      · exact q
    · exact q
  · refine ⟨peW (pe_callB (call_isET (hC hne) hz hf) hg hm boot_isinstance (pa_cons pv (pa_cons (pe_tup h1) pa_nil he2) he) (by decide) (by decide) he hpl) fun σ H Q ⟨ρ, re, q⟩ => ?_⟩
    unfold isE at q
    rw [e] at q
    split at q
    · rename_i e0 a' ea
      split at q
      · rename_i z
        subst z
        obtain ⟨w, g1, g2⟩ := re.val i _ ea
        cases g2
        refine ⟨_, g1, le_line ((paired_len h2).trans (paired_len h3).symm) hl, fun p hp => ?_⟩
        exact ⟨p, cs, us, b, rfl, upd_same, h2, hk, q _ _ [] (new_same hp) (.bl _) (fun _ h => nomatch h)⟩
      · exact q.elim
    · exact q.elim
end Vs

namespace Vs
open PySem PySem.Spec PyProof.Rows L2

/-! ### a new thing, frozen at once -/
def fzE (f : Env → R D) (ρ : Env) : R D := (f ρ).bind fun d => if immD (fzD d) = true then .ok (fzD d) else .st
theorem peG {X : Cx} {e : Expr} {t u : TE} (h : PE X e u) (q : ∀ σ H Q, t σ H Q → u σ H fun x H' => ∀ pins s, Inv X pins σ H' s → ∃ H'', Inv X pins σ H'' s ∧ Q x H'') : PE X e t :=
  ⟨fun pins s σ H Q I x => thn (h.run pins s σ H _ I (q σ H Q x)) fun v s' ⟨y, H', I', r, z⟩ => by
    obtain ⟨H'', I'', z'⟩ := z pins s' I'
    exact ⟨y, H'', I'', r, z'⟩⟩
theorem vg_fz {X : Cx} {W : WX} {e : Expr} {f : Env → R D} (v : VG X W e f) : VG X W e (fzE f) := ⟨peG v.pe fun σ H Q ⟨ρ, re, o⟩ => ⟨ρ, re, (Out.bind (show Out X.mg W σ H (fzE f ρ) _ from o)).mono fun d _ q v H1 A s1 f1 n1 pins s I => by
  by_cases m : immD (fzD d) = true
  rotate_left
  · rw [if_neg m] at q; exact q.elim
  rw [if_pos m] at q
  obtain ⟨H2, I2, k1, k2⟩ := lock_all I A (f1.lists m)
  have hT : ∀ b o, Stt o → H1 b = some o → H2 b = some o := fun b o t e => by
    rw [k1 b fun z => ?_]
    · exact e
    · obtain ⟨o', e', n⟩ := f1.soft b z
      rw [e] at e'; cases e'; exact n t
  refine ⟨H2, I2, q v H2 [] (fun b o e => ?_) (f1.frz m k2 hT) (fun _ z => nomatch z)⟩
  rw [k1 b fun z => by rw [n1 b z] at e; cases e]
  exact s1 b o e⟩⟩
end Vs

namespace Vs
open PySem PySem.Spec PyProof.Rows L2

/-! ### a plain slice of a list as a source -/
def slLE (f : Env → R D) (lo hi : Env → R (Option Int)) (ρ : Env) : R D := (f ρ).bind fun d => (lo ρ).bind fun l => (hi ρ).bind fun u => match d with
  | .lst xs => .ok (.lst (cutL xs l u))
  | _ => .st
section
variable {X : Cx} {W : WX} {own : List Nat} {a : Expr} {f : Env → R D} {lo hi : Option Expr} {l u : Env → R (Option Int)} {p2 pos : Pos}
theorem vp_sl (ha : VP X W own a f) (hl : VO X W lo l) (hu : VO X W hi u) : VP X W own (.Subscript a (.Slice lo hi none p2) pos) (slLE f l u) :=
  ⟨peW (pe_slice sl_list ha.pe hl.po hu.po) fun σ H Q ⟨ρ, S, F, st, z⟩ => ⟨ρ, S, F, st, (Out.bind z).mono fun d _ q v H1 A s1 n1 r1 => ⟨ρ, st.env.mono s1, ((Out.bind q).up s1).mono fun l _ q H2 s2 => ⟨ρ, st.env.mono (s1.trans s2), ((Out.bind q).up (s1.trans s2)).mono fun u _ q H3 s3 => by
    split at q
    · have sX := s2.trans s3
      have m := ext_mono (A := A) sX (st.sub.trans s1)
      cases r1 with
      | lst h1 r1 =>
        have h1 := m.seq h1
        have r1 := r1.mono m
        have sS : Same S H3 := st.sub.trans (s1.trans sX)
        refine ⟨_, _, rfl, (ext_h sS A).seq h1, fun p hp => ?_⟩
        exact q _ _ (p :: A) ((s1.trans sX).trans (new_same hp)) (fun a m => (List.mem_cons.mp m).elim (fun z => by rw [z]; exact (s1.trans sX).free hp) fun z => n1 a z) (.lst (SqL.of (ext_at (sS.trans (new_same hp)) upd_same List.mem_cons_self)) ((r1.mono ((ext_mono (A := A) (new_same hp) sS).trans (ext_sup fun a m => List.mem_cons_of_mem _ m))).cut _ _))
    · exact q.elim⟩⟩⟩⟩
end
end Vs

namespace Vs
open PySem PySem.Spec PyProof.Rows L2

/-! ### a comprehension that lets a call's exception out -/
/-- a block's context with its own wish about exceptions -/
abbrev blkE (X : Cx) (s : Shared) (H : Hp) (scope : Scope) (cenv : PySem.Env) (fp : List Addr) (xe : Value → Shared → Prop) : Cx := { X.blk s H scope cenv fp with xe := xe }
theorem invE {X : Cx} {xe : Value → Shared → Prop} {pins : List (Addr × Obj)} {σ : L2.St} {H : Hp} {s : Shared} (I : Inv X pins σ H s) : Inv { X with xe := xe } pins σ H s :=
  ⟨⟨I.ok.mod, I.ok.kind, I.ok.glob, I.ok.blt, I.ok.above, I.ok.inj, I.ok.has, I.ok.cab, I.ok.hd, I.ok.frames, I.ok.stk, I.ok.exf, I.ok.bs, I.ok.bsz, I.ok.noex, I.ok.exfs, I.ok.funs, I.ok.frf⟩, I.os, I.bare, I.base, I.loc, I.cell, I.free, I.freeC, I.pin, I.hok, I.len⟩
theorem noteFrame_same {e : Value} {env env' : PySem.Env} (h : env'.frame = env.frame) : noteFrame e env' = noteFrame e env := by
  unfold noteFrame PySem.frameOf
  rw [h]
theorem funFrames_at {base B h h' : Heap} (hB : ∀ b, base.get? b = none → B.get? b = none) : ∀ {l : List PySem.Env}, h.FunFrames base l → (∀ b ∈ frs l, h'.get? b = h.get? b) → h'.FunFrames B l
  | [], _, _ => trivial
  | env :: l, h, k => by
    obtain ⟨hk, ⟨L, o, hf, hb, ho, hd⟩, hr⟩ := h
    exact ⟨hk, ⟨L, o, hf, hB _ hb, (k L (List.mem_filterMap.mpr ⟨env, List.mem_cons_self, hf⟩)).trans ho, hd⟩, funFrames_at hB hr fun b hb => by
      obtain ⟨e, he, q⟩ := List.mem_filterMap.mp hb
      exact k b (List.mem_filterMap.mpr ⟨e, List.mem_cons_of_mem _ he, q⟩)⟩
theorem block_fails {X : Cx} {W : WX} {pins pinsb : List (Addr × Obj)} {σ σ9 : L2.St} {H3 H9 : Hp} {s3 s9 s' : Shared} {scope : Scope} {ce : PySem.Env} {fp : List Addr} {xe : Value → Shared → Prop} {E : XK} {u : Value}
    (hs : X.stack = X.env :: X.outer) (hf : X.env.frame = some X.env.locals) (tk : Takes X W) (I3 : Inv X pins σ H3 s3) (f3 : ∀ b ∈ fp, FpOk X pins H3 b ∧ b < s3.heap.objs.size) (hL : ce.locals = s3.heap.objs.size) (hfr : ce.frame = X.env.frame)
    (Ib : Inv (blkE X s3 H3 scope ce fp xe) pinsb σ9 H9 s9) (c : L2.CX X.prog X.w X.stack H9 s9 E u s') (hE : ∀ cls d H', E cls d H' → W cls d σ H') :
    notedBy (model X.prog X.w) X.A ce (CompFails (model X.prog X.w) X.A X.xe ce) u s' := by
  obtain ⟨a, B, H', cls, d, rfl, fl, hok, ub, na, os, ag, hw⟩ := c
  -- the state without the exception
  obtain ⟨G, g1, g2⟩ := restrict s'.heap fun b => (B.get? b).isSome || decide (b ∈ frs X.stack)
  have st : B.StaysIn s'.heap := fl.1
  have gB : ∀ b o, B.get? b = some o → G.get? b = some o := fun b o e => by
    rw [g1 b (by simp [e])]
    exact st b o e
  have gF : ∀ b, b ∈ frs X.stack → G.get? b = s'.heap.get? b := fun b hb => g1 b (by simp [hb])
  have og : ∀ b o, G.get? b = some o → s'.heap.get? b = some o ∧ ((B.get? b).isSome = true ∨ b ∈ frs X.stack) := fun b o e => by
    cases q : ((B.get? b).isSome || decide (b ∈ frs X.stack)) with
    | false => rw [g2 b q] at e; cases e
    | true =>
      rw [g1 b q] at e
      exact ⟨e, by simpa [Bool.or_eq_true] using q⟩
  have nb : ∀ b o, G.get? b = some o → b ∉ frs X.stack → B.get? b = some o := fun b o e hb => by
    obtain ⟨e', h⟩ := og b o e
    rcases h with h | h
    · obtain ⟨o', q⟩ := Option.isSome_iff_exists.mp h
      have z := st b o' q
      rw [e'] at z; cases z
      exact q
    · exact absurd h hb
  have I' : Inv (blkE X s3 H3 scope ce fp xe) pinsb σ9 H' { s9 with heap := G, gens := s'.gens, drawn := s'.drawn, toks := s'.toks } := by
    refine Ib.call (ch := []) ⟨fun b o e n hb _ => gB b o (ub.keep b o e n hb), fun b o e n hb _ => ?_, fun b o e n _ => ub.free b o e n, fun b o e _ => ?_, ub.tups, ub.frzs, ub.tbls⟩ (hok.kept gB) ag (fun _ z => nomatch z)
    · obtain ⟨sl, q⟩ := ub.slot b o e hb
      exact ⟨sl, by rw [gF b hb]; exact q⟩
    · by_cases hb : b ∈ frs X.stack
      · obtain ⟨sl, q⟩ := ub.slot b o e hb
        exact ⟨_, by rw [gF b hb]; exact q⟩
      · obtain ⟨o', q⟩ := ub.there b o e hb
        exact ⟨o', gB b o' q⟩
  generalize hsI : ({ s9 with heap := G, gens := s'.gens, drawn := s'.drawn, toks := s'.toks } : Shared) = sI at I'
  have hGI : sI.heap = G := by rw [← hsI]
  have hos : s'.os = sI.os := by rw [← hsI]; exact os
  -- in the def's context
  have I7 : Inv X pins σ H' sI := I3.call' (ch := fp) I'.os I'.base I'.hok I'.bare fun b hb => ⟨(f3 b hb).1.2.2.2.1, (f3 b hb).1.2.1, (f3 b hb).1.2.2.2.2.1, (f3 b hb).1.2.2.2.2.2⟩
  have nC : H' s3.heap.objs.size = none := by
    have z : H' ce.locals = none := I'.free
    rw [hL] at z
    exact z
  obtain ⟨f0, f1, f2, f3', f4, f5⟩ := I3.fpOk (H' := H') (Nat.le_refl s3.heap.objs.size) nC
  obtain ⟨m, hn, _⟩ := I'.loc
  have hn : sI.heap.Ns ce.locals m := hn
  rw [hL, hGI] at hn
  have hCst : s3.heap.objs.size ∉ frs X.stack := fun z => by
    rcases List.mem_cons.mp (I3.stkSub _ z) with q | q
    · exact f1 q
    · exact f2 q
  -- noted
  unfold notedBy
  rw [noteFrame_same hfr]
  have hXf : X.A.frames = some (X.env :: X.outer) := by rw [I3.ok.frames, hs]
  rw [hs] at fl
  refine HandSPX.looks_onZ Zc.steady hXf hf fl fun h1 hh up1 => ?_
  obtain ⟨k1, k2, k3, k4⟩ := hh
  obtain ⟨oC, es, ep, hoC, hdC, hstr, hfnd⟩ := hn
  have hBC : B.get? s3.heap.objs.size = some oC := nb _ _ hoC hCst
  refine ⟨m, ⟨oC, es, ep, by rw [hL]; exact k1 _ _ hBC, hdC, hstr, hfnd⟩, fun h2 m' hn' sb => ?_⟩
  rw [hL] at sb
  -- the block's names leave the ground
  generalize hB' : PySem.W.hideAll B [s3.heap.objs.size] = B'
  have bg : ∀ b o, B'.get? b = some o → B.get? b = some o ∧ b ≠ s3.heap.objs.size := fun b o e => by
    rw [← hB'] at e
    refine ⟨PySem.W.of_hideAll _ e, fun z => ?_⟩
    rw [PySem.W.hideAll_none _ (by simp [z])] at e
    cases e
  have bn : ∀ b, B.get? b = none → B'.get? b = none := fun b e => by
    cases q : B'.get? b with
    | none => rfl
    | some o => rw [(bg b o q).1] at e; cases e
  have st2 : B'.StaysIn h2 := fun b o e => (sb.2 b (bg b o e).2).trans (k1 b o (bg b o e).1)
  have fr2 : h2.FunFrames B' (X.env :: X.outer) := funFrames_at bn k3 fun b hb => sb.2 b fun z => hCst (by rw [hs, ← z]; exact hb)
  obtain ⟨oe, vs, T, oT, ts, he, hz, hd, h1', hnT, hTe, hT, hdT, h3⟩ := k4
  have aC : a ≠ s3.heap.objs.size := fun z => by rw [z, hBC] at k2; cases k2
  have TC : T ≠ s3.heap.objs.size := fun z => by rw [z, hBC] at hnT; cases hnT
  have he2 : h2.get? a = some oe := (sb.2 a aC).trans he
  have hT2 : h2.get? T = some oT := (sb.2 T TC).trans hT
  unfold PySem.passOn
  refine wpAny_bind (wpAny_field he2 hd h1' ?_)
  rw [if_neg (by simp)]
  refine (wpAny_bind (HandSPX.setFlight_anyZ st2 fr2 ⟨oe, vs, T, oT, ts, he2, hz, hd, h1', bn _ hnT, hTe, hT2, hdT, h3⟩ fun h4 x1 x2 x3 x4 => wpAny_throw ?_))
  refine tk _ _ ⟨a, B', { sI with heap := PySem.W.hideAll sI.heap [s3.heap.objs.size], toks := sI.toks }, pins, σ, H', cls, d, rfl, ?_, fun b o e hb => ?_, fun b o e hnf => ?_, .inr (.inr ?_), na, hos, ag, hE _ _ _ hw⟩
  · exact I7.turned (fun b o hb e => PySem.W.hideAll_get _ e (by simp [hb])) f0 f1 f3' f4 f5
  · have e1 := PySem.W.of_hideAll _ e
    rw [hGI] at e1
    have hbC : b ≠ s3.heap.objs.size := fun z => by
      rw [PySem.W.hideAll_none _ (by simp [z])] at e
      cases e
    rw [← hB']
    exact PySem.W.hideAll_get _ (nb b o e1 hb) (by simp [hbC])
  · have e1 := PySem.W.of_hideAll _ e
    rw [hGI] at e1
    have hbC : b ≠ s3.heap.objs.size := fun z => by
      rw [PySem.W.hideAll_none _ (by simp [z])] at e
      cases e
    obtain ⟨sl1, q1⟩ := up1 b o (og b o e1).1 hnf
    obtain ⟨sl2, q2⟩ := x4 b { o with slots := sl1 } ((sb.2 b hbC).trans q1) hnf
    exact ⟨sl2, q2⟩
  · rw [hs]
    refine ⟨x1, bn _ k2, x2, ?_⟩
    rw [hfr, hf] at x3
    exact x3
section
variable {X : Cx} {W : WX}
theorem lc_coreX {pins : List (Addr × Obj)} {s : Shared} {σ : L2.St} {H : Hp} {Q : VK} {elt tg iter : Expr} {scope : Scope} {own : List (Str × Nat)} {pos pos' : Pos} {wi : TI} {g : TG} {te : TE} {use : Option (Value → Sem Unit)} {Qf : Value → Shared → Prop}
    (hst : X.stack = X.env :: X.outer) (hf : X.env.frame = some X.env.locals) (tk : Takes X W)
    (hc : X.calm = true) (hN : X.N.Nodup) (I : Inv X pins σ H s) (hi : PI X tg iter wi) (ok : BlkOk X.N X.env.scope scope own)
    (hg : ∀ (s : Shared) (H : Hp) (C : Addr) (cl : List (Str × Addr)) (fp : List Addr) (xe : Value → Shared → Prop), PG (blkE X s H scope (compEnvC scope cl C X.env) fp xe) tg g)
    (he : ∀ (s : Shared) (H : Hp) (C : Addr) (cl : List (Str × Addr)) (fp : List Addr) (xe : Value → Shared → Prop), (∀ σ', PassesAt (L2.CX X.prog X.w) (blkE X s H scope (compEnvC scope cl C X.env) fp xe) σ' fun cls d H' => W cls d σ H') → PE (blkE X s H scope (compEnvC scope cl C X.env) fp xe) elt te)
    (hs : ∀ x, foldedSetIterable iter X.env x = pure x)
    (h : tLc wi g tYes te (own.map (·.2)) σ H Q)
    (hRR : ∀ D ce s' m H', Inv X pins σ H' s' → Q (.ref D) H' → s'.heap.Ns ce.locals m → FpOk X pins H' ce.locals → compEnds (model X.prog X.w) X.A X.xe use Qf (.ref D) ce (.ok .next) s') :
    wpAny (model X.prog X.w) X.A (comprehension (.ListComp elt [⟨tg, iter, [], 0⟩] scope pos) scope X.env pos' (newList []) false (eval iter X.env) use) Qf X.xe s := by
  have hfree : ∀ y ∈ scope.names, y.2 = .free → ∃ c, X.env.cells.lookup y.1 = some c := fun y hy e => by
    rcases ok.free y hy e with k | k
    · exact I.ok.has _ (.inl k)
    · exact I.ok.has _ (.inr k)
  refine comprehension_at (use := use) rfl hs (closure_ok hfree) ok.kind (fun y hy e => by rw [ok.uniq y hy, e])
    (thn (hi.run pins s σ H _ I h) fun xv s1 hx => thn hx fun itv s2 h2 => ?_)
  obtain ⟨it, fp, tn, J, H2, e, I2, T, st2, f2, q⟩ := h2
  subst e
  refine wpAny_newObj_type (newEnv_comp ?_) (by show 0 ≤ sizeLine; decide)
  generalize hD : s2.heap.objs.size = D
  have hDn : H2 D = none := I2.hok.fresh (Nat.le_of_eq hD)
  obtain ⟨Wi, ⟨m0, w0⟩, turn⟩ := q D hDn
  -- the new list
  generalize hs3 : ({ s2 with heap := s2.heap.push { cls := .type "list", data := .seq ([] : List Value).toArray } } : Shared) = s3
  have I3 : Inv X pins σ (upd H2 D (.lst [])) s3 := by
    rw [← hs3]
    refine I2.laid (t' := s2.toks) (fun b o e => Heap.get?_push_of_some _ e) (Nat.le_of_eq hD) ⟨Nat.zero_le _, [], 0, .nil, ?_⟩
    rw [← hD]
    exact Heap.get?_push_size _ rfl
  have h3 : s3.heap = s2.heap.push { cls := .type "list", data := .seq ([] : List Value).toArray } := by rw [← hs3]
  have sz : ∀ b ∈ fp, b < s2.heap.objs.size := fun b hb => by
    obtain ⟨o, e, _⟩ := T.obj _ _ st2 b hb
    exact Heap.lt_size e
  have f3 : ∀ b ∈ fp, FpOk X pins (upd H2 D (.lst [])) b ∧ b < s3.heap.objs.size := fun b hb => by
    have hlt := sz b hb
    refine ⟨⟨?_, (f2 b hb).2⟩, by rw [h3, Heap.size_push]; exact Nat.lt_succ_of_lt hlt⟩
    rw [L2.upd_ne (by rw [← hD]; exact Nat.ne_of_lt hlt)]
    exact (f2 b hb).1
  have st3 : tn 0 s3.heap := T.keep _ _ _ st2 fun b _ o e => by rw [h3]; exact Heap.get?_push_of_some _ e
  have I4 := block_start I3 ok hN f3
  have pg := hg s3 (upd H2 D (.lst [])) s3.heap.objs.size (cellsFrom (s3.heap.objs.size + 1) scope.names (cloFrom X.env.cells scope.names [])) fp
  have pe := he s3 (upd H2 D (.lst [])) s3.heap.objs.size (cellsFrom (s3.heap.objs.size + 1) scope.names (cloFrom X.env.cells scope.names [])) fp
  show codeAny _ _ (.compStart (.ListComp elt [⟨tg, iter, [], 0⟩] scope pos) 0 (.ref it) (.ref D) (compEnvC scope (cellsFrom (s3.heap.objs.size + 1) scope.names (cloFrom X.env.cells scope.names [])) s3.heap.objs.size X.env)) (compEnds (model X.prog X.w) X.A X.xe use Qf (.ref D) (compEnvC scope (cellsFrom (s3.heap.objs.size + 1) scope.names (cloFrom X.env.cells scope.names [])) s3.heap.objs.size X.env)) { s3 with heap := pushCells (s3.heap.push { cls := .type "dict", data := .dict #[] }) scope.names }
  have nfp : ∀ b ∈ fp, (upd H2 D (.lst [])) b = none := fun b hb => (f3 b hb).1.1
  generalize hce : compEnvC scope (cellsFrom (s3.heap.objs.size + 1) scope.names (cloFrom X.env.cells scope.names [])) s3.heap.objs.size X.env = ce at I4 pg pe ⊢
  have cL : ce.locals = s3.heap.objs.size := by subst hce; rfl
  have cF : ce.frame = X.env.frame := by subst hce; rfl
  generalize hH3 : upd H2 D (.lst []) = H3 at I3 I4 pg pe w0 nfp f3
  generalize hs4 : ({ s3 with heap := pushCells (s3.heap.push { cls := .type "dict", data := .dict #[] }) scope.names } : Shared) = s4 at I4 ⊢
  have st4 : tn 0 s4.heap := T.keep _ _ _ st3 fun b _ o e => by rw [← hs4]; exact pushCells_keeps _ _ _ _ (Heap.get?_push_of_some _ e)
  generalize hxe : notedBy (model X.prog X.w) X.A ce (fun e s' => compEnds (model X.prog X.w) X.A X.xe use Qf (.ref D) ce (.error e) s') = xe
  have hpass : ∀ σ', PassesAt (L2.CX X.prog X.w) (blkE X s3 H3 scope ce fp xe) σ' fun cls d H' => W cls d σ H' := fun σ' pb Hb sb e sb' Ib c => by
    show xe e sb'
    rw [← hxe]
    have z := block_fails (E := fun cls d H' => W cls d σ H') hst hf tk I3 f3 cL cF Ib c fun _ _ _ w => w
    exact wpAny_mono z (fun _ _ q => by cases use <;> exact q) fun _ _ q => by cases use <;> exact q
  have pg := pg xe
  have pe := pe xe hpass
  have I4 : Inv (blkE X s3 H3 scope ce fp xe) [] (L2.wipe σ (own.map (·.2))) H3 s4 := invE I4
  have stat : ∀ {σ' : L2.St} {H' : Hp} {s' : Shared}, Inv (blkE X s3 H3 scope ce fp xe) [] σ' H' s' → (∀ b ∈ fp, H' b = none) → ∀ b ∈ fp, FpOk (blkE X s3 H3 scope ce fp xe) [] H' b := fun {σ' H' s'} I' hn b hb =>
    ⟨hn b hb, (I'.ok.exf b hb).1, I'.ok.exfs b hb, .inl hb, fun x c e => (I'.ok.exf b hb).2 x c e, fun p hp => absurd (show p ∈ ([] : List (Addr × Obj)) ++ [] from hp) (by simp)⟩
  have loop : codeAny (model X.prog X.w) X.A (.compLoop (.ListComp elt [⟨tg, iter, [], 0⟩] scope pos) 0 (.ref it) (.ref D) ce) (compEnds (model X.prog X.w) X.A X.xe use Qf (.ref D) ce) s4 := by
    refine compLoop_any (fun n s' => ∃ i H', Inv (blkE X s3 H3 scope ce fp xe) [] (L2.wipe σ (own.map (·.2))) H' s' ∧ tn i s'.heap ∧ (∀ b ∈ fp, H' b = none) ∧ Wi i n H') ?_ m0 ⟨0, H3, I4, st4, nfp, w0⟩
    rintro n s5 ⟨i, H5, I5, st5, n5, w5⟩
    rw [hxe]
    rcases turn i n H5 w5 with ⟨stop, qq⟩ | ⟨go, Nx, hNx, step⟩
    · have td := T.done (blkE X s3 H3 scope ce fp xe) rfl rfl rfl hc i [] s5 _ H5 (fun _ _ => False) I5 (stat I5 n5) st5 stop
      refine thnF td fun r s6 ⟨hr, I6⟩ => ?_
      subst hr
      -- back in the def's context
      have I7 : Inv X pins σ H5 s6 := I3.call' (ch := fp) I6.os I6.base I6.hok I6.bare fun b hb => ⟨(f3 b hb).1.2.2.2.1, (f3 b hb).1.2.1, (f3 b hb).1.2.2.2.2.1, (f3 b hb).1.2.2.2.2.2⟩
      have nC : H5 s3.heap.objs.size = none := by
        have z : H5 ce.locals = none := I6.free
        rw [cL] at z
        exact z
      obtain ⟨m, hn, _⟩ := I6.loc
      have hn : s6.heap.Ns ce.locals m := hn
      exact hRR D ce s6 m H5 I7 qq hn (by rw [cL]; exact I3.fpOk (Nat.le_refl _) nC)
    · have ti := T.item (blkE X s3 H3 scope ce fp xe) rfl rfl rfl hc i [] s5 _ H5 (fun _ _ => False) I5 (stat I5 n5) st5 go
      refine thnF ti fun r s6 ⟨u, hr, h6⟩ => ?_
      subst hr
      refine thnF h6 fun _ s7 ⟨x, H7, I7, r7, y7, st7, n7⟩ => ?_
      have I7' := I7.pinned (stat I7 n7) (T.obj _ _ st7)
      refine thn (pg.run _ s7 _ H7 x u _ I7' r7 (step x H7 y7)) fun _ s8 ⟨σ8, H8, I8, hw8, q8⟩ => ?_
      refine thn ((pts_nil (X := blkE X s3 H3 scope ce fp xe)).run _ s8 σ8 H8 _ I8 q8) fun b s9 ⟨H9, I9, q9⟩ => ?_
      -- the turn's end
      have fin : ∀ {s' : Shared} {H' : Hp}, Inv (blkE X s3 H3 scope ce fp xe) ([] ++ pinsAt fp s7.heap) σ8 H' s' → Nx H' → ∃ m, m < n ∧ ∃ i H', Inv (blkE X s3 H3 scope ce fp xe) [] (L2.wipe σ (own.map (·.2))) H' s' ∧ tn i s'.heap ∧ (∀ b ∈ fp, H' b = none) ∧ Wi i m H' := fun {s' H'} I' nx => by
        obtain ⟨m', hm, w'⟩ := hNx H' nx
        have pin' : ∀ b ∈ fp, ∀ o, s7.heap.get? b = some o → s'.heap.get? b = some o ∧ H' b = none := fun b hb o e =>
          let z := I'.pin (b, o) (List.mem_append_right _ (List.mem_append_right _ (mem_pinsAt hb e)))
          ⟨z.1, z.2.1⟩
        have hl : (L2.wipe σ (own.map (·.2))).length = σ8.length := by rw [← hw8, wipe_length]
        refine ⟨m', hm, i + 1, H', (I'.unpinned (pins := [])).weak hl (fun j v e => ?_), T.keep _ _ _ st7 fun b hb o e => (pin' b hb o e).1, fun b hb => ?_, w'⟩
        · rw [← hw8] at e
          exact (L2.wipe_some e).1
        · obtain ⟨o, e, _⟩ := T.obj _ _ st7 b hb
          exact (pin' b hb o e).2
      cases b with
      | false =>
        simp only [Bool.false_eq_true, if_false] at q9 ⊢
        exact fin I9 q9
      | true =>
        simp only [if_true] at q9 ⊢
        refine thn (pe.run _ s9 σ8 H9 _ I9 q9) fun z s10 ⟨yv, H10, I10, r10, acc, hD10, hz10, nx⟩ => ?_
        exact app_ok (X := blkE X s3 H3 scope ce fp xe) I10 hD10 hz10 r10 fun s11 I11 => fin I11 nx
  exact codeAny_compStart_list loop (T.self X.A 0 _ _ _ st4 loop)
/-- as a value -/
theorem pe_lcX {elt tg iter : Expr} {scope : Scope} {own : List (Str × Nat)} {pos : Pos} {wi : TI} {g : TG} {te : L2.St → TE} (hst : X.stack = X.env :: X.outer) (hf : X.env.frame = some X.env.locals) (tk : Takes X W) (hc : X.calm = true) (hN : X.N.Nodup) (hi : PI X tg iter wi) (ok : BlkOk X.N X.env.scope scope own)
    (hg : ∀ (s : Shared) (H : Hp) (C : Addr) (cl : List (Str × Addr)) (fp : List Addr) (xe : Value → Shared → Prop), PG (blkE X s H scope (compEnvC scope cl C X.env) fp xe) tg g)
    (he : ∀ (σ : L2.St) (s : Shared) (H : Hp) (C : Addr) (cl : List (Str × Addr)) (fp : List Addr) (xe : Value → Shared → Prop), (∀ σ', PassesAt (L2.CX X.prog X.w) (blkE X s H scope (compEnvC scope cl C X.env) fp xe) σ' fun cls d H' => W cls d σ H') → PE (blkE X s H scope (compEnvC scope cl C X.env) fp xe) elt (te σ))
    (hs : ∀ x, foldedSetIterable iter X.env x = pure x := by intro _; rfl) :
    PE X (.ListComp elt [⟨tg, iter, [], 0⟩] scope pos) (fun σ => tLc wi g tYes (te σ) (own.map (·.2)) σ) := by
  refine ⟨fun pins s σ H Q I h => ?_⟩
  rw [eval_ListComp]
  refine lc_coreX hst hf tk hc hN I hi ok hg (he σ) hs h fun D ce s' m H' I' q hn f => ⟨m, hn, fun h'' sb => ?_⟩
  obtain ⟨f0, f1, f2, f3, f4, f5⟩ := f
  exact ⟨.ref D, H', I'.turned (t' := s'.toks) (fun b o hb e => (sb.2 b hb).trans e) f0 f1 f3 f4 f5, rfl, q⟩
/-- name = [..] on one line, the name a local -/
theorem ps_setLcX {i : Nat} {y : Str} {py : Pos} {elt tg iter : Expr} {scope : Scope} {own : List (Str × Nat)} {pos spos : Pos} {wi : TI} {g : TG} {te : L2.St → TE} (hst : X.stack = X.env :: X.outer) (hf : X.env.frame = some X.env.locals) (tk : Takes X W) (hc : X.calm = true) (hN : X.N.Nodup) (hy : X.N[i]? = some y) (hyl : X.env.scope.names.lookup y = some .local)
    (hsw : swapsWith (.ListComp elt [⟨tg, iter, [], 0⟩] scope pos) (some (.Name y py)) spos.line X.env = pure true) (hi : PI X tg iter wi) (ok : BlkOk X.N X.env.scope scope own)
    (hg : ∀ (s : Shared) (H : Hp) (C : Addr) (cl : List (Str × Addr)) (fp : List Addr) (xe : Value → Shared → Prop), PG (blkE X s H scope (compEnvC scope cl C X.env) fp xe) tg g)
    (he : ∀ (σ : L2.St) (s : Shared) (H : Hp) (C : Addr) (cl : List (Str × Addr)) (fp : List Addr) (xe : Value → Shared → Prop), (∀ σ', PassesAt (L2.CX X.prog X.w) (blkE X s H scope (compEnvC scope cl C X.env) fp xe) σ' fun cls d H' => W cls d σ H') → PE (blkE X s H scope (compEnvC scope cl C X.env) fp xe) elt (te σ))
    (hs : ∀ x, foldedSetIterable iter X.env x = pure x := by intro _; rfl) :
    PS X (.Assign [.Name y py] (.ListComp elt [⟨tg, iter, [], 0⟩] scope pos) spos) (tAsg (fun σ => tLc wi g tYes (te σ) (own.map (·.2)) σ) (gName i)) := by
  refine ⟨fun pins s σ H D I h => ?_⟩
  rw [exec_Assign_Name_used _ _ _ _ hsw]
  refine wpAny_bind (wpAny_standAt (wpAny_bind ?_))
  show wpAny _ X.A (do let _ ← comprehension (.ListComp elt [⟨tg, iter, [], 0⟩] scope pos) scope X.env (firstIterPos [⟨tg, iter, [], 0⟩] pos) (newList []) false (eval iter X.env) (some (assign (.Name y py) X.env))) _ _ s
  have h : tLc wi g tYes (te σ) (own.map (·.2)) σ H (fun x H1 => gName i x σ H1 D.nx) := h
  refine wpAny_bind (thn (lc_coreX (Qf := fun _ s' => SP X pins D .next s') hst hf tk hc hN I hi ok hg (he σ) hs h fun L ce s' m H' I' q hn f => ?_) fun _ s' hq => wpAny_pure (wpAny_pure hq))
  show wpAny _ _ (assign (.Name y py) X.env (.ref L)) _ _ _
  refine wpAny_assign_Name (store_ok2 (v := V.ref L) I' hN hy (.inl hyl) rfl (fun s2 I2 ⟨a, sb, ha⟩ => ?_) (.inr hyl))
  obtain ⟨f0, f1, f2, f3, f4, f5⟩ := f
  have haC : ce.locals ≠ a := by
    rcases ha with z | z
    · rw [z]; exact f1
    · exact fun e => f4 y a z e.symm
  refine ⟨m, hn.sameBut sb haC, fun h3 sb3 => ?_⟩
  exact ⟨_, H', I2.turned (t' := s2.toks) (fun b o hb e => (sb3.2 b hb).trans e) f0 f1 f3 f4 f5, q⟩
end
/-! ### as rules -/
def lcXL (vs : List Nat) (tf : D → Env → Option Env) (f : Env → R D) (ρ : Env) : List D → R (List D)
  | [] => .ok []
  | d :: ds => match tf d (wipeD ρ vs) with
    | none => .st
    | some ρ1 => (f ρ1).bind fun y => (lcXL vs tf f ρ ds).bind fun r => .ok (y :: r)
def lcXE (vs : List Nat) (fi : Env → R (List D)) (tf : D → Env → Option Env) (f : Env → R D) (ρ : Env) : R D := (fi ρ).bind fun ds => if ds.length ≤ sizeLine then (lcXL vs tf f ρ ds).bind fun r => .ok (.lst r) else .st
abbrev Wat (W : WX) (σ : L2.St) : WX := fun cls d _ H => W cls d σ H
section
variable {X : Cx} {W : WX} {own slots vs : List Nat} {tg : Expr} {fi : Env → R (List D)} {tf : D → Env → Option Env} {f : Env → R D} {g : TG}
theorem tLcX_of {K : PySem.W.Frag} {mg : Str → Option Value} (hK : X.K = K) (hmg : X.mg = mg) (hg : TgOk X [] slots g tf) (hv : ∀ k ∈ slots, k ∈ vs) {σ : L2.St} {H : Hp} {Q : VK} (h : tG K mg W (lcXE vs fi tf f) σ H Q) :
    tLc (tI K mg W [] fi) g tYes (tG K mg (Wat W σ) f) vs σ H Q := by
  subst hK
  subst hmg
  obtain ⟨ρ, re, o⟩ := h
  refine ⟨ρ, H, fun _ => [], re.stx, (Out.bind o).mono fun ds _ q J H1 A s1 n1 it D hD => ?_⟩
  by_cases hz : ds.length ≤ sizeLine
  rotate_left
  · rw [if_neg hz] at q; exact q.elim
  rw [if_pos hz] at q
  have q := Out.bind q
  have it : IterOk X.K J (ext H H1 A) ds := it
  have re1 : REnv X.K ρ σ H1 := re.mono s1
  -- the invariant
  refine ⟨fun i m H2 => m = ds.length - i ∧ i ≤ ds.length ∧ ∃ acc ys B, Same H1 H2 ∧ H2 D = some (.lst acc) ∧ Fus X.K H2 acc ys B ∧ D ∉ B ∧ (∀ a ∈ B, H1 a = none) ∧ acc.length ≤ i ∧
      Out X.mg W σ H (lcXL vs tf f ρ (ds.drop i)) fun r => ∀ v H' A, Same H H' → Fu X.K H' v (.lst (ys ++ r)) A → (∀ a ∈ A, H a = none) → Q v H', ⟨ds.length, by simp, Nat.zero_le _, [], [], [], new_same hD, upd_same, .nil, (fun z => nomatch z), (fun _ z => nomatch z), Nat.le_refl _, ?_⟩, ?_⟩
  · rw [List.drop_zero]
    exact q
  · rintro i m H2 ⟨rfl, hi, acc, ys, B, s2, hL, fu, nD, nB, hacc, q⟩
    have sx : Same (ext H H1 A) H1 := ext_h s1 A
    have sE : Same (ext H H1 A) (ext (ext H H1 A) H2 []) := ext_s []
    have sF : Same (ext (ext H H1 A) H2 []) H2 := ext_h (sx.trans s2) []
    obtain ⟨go, stop⟩ := it _ H2 i sE sF
    by_cases hlt : i < ds.length
    · obtain ⟨g1, g2⟩ := go ds[i] (List.getElem?_eq_getElem hlt)
      refine .inr ⟨g1, fun H' => ∃ acc ys B, Same H1 H' ∧ H' D = some (.lst acc) ∧ Fus X.K H' acc ys B ∧ D ∉ B ∧ (∀ a ∈ B, H1 a = none) ∧ acc.length ≤ i + 1 ∧
        Out X.mg W σ H (lcXL vs tf f ρ (ds.drop (i + 1))) fun r => ∀ v H' A, Same H H' → Fu X.K H' v (.lst (ys ++ r)) A → (∀ a ∈ A, H a = none) → Q v H', fun H' y => ⟨ds.length - (i + 1), by omega, rfl, hlt, y⟩, fun x H3 y => ?_⟩
      obtain ⟨s3, r3⟩ := g2 x H3 y
      rw [List.drop_eq_getElem_cons hlt] at q
      unfold lcXL at q
      cases e : tf ds[i] (wipeD ρ vs) with
      | none => rw [e] at q; exact q.elim
      | some ρ1 =>
        rw [e] at q
        simp only at q
        have re3 := ((re1.mono s2).mono s3).wipe vs
        have rx : Rd X.K H3 x ds[i] := r3.mono (ext_h (sF.trans s3) [])
        refine hg H3 (fun _ => []) (wipeD ρ vs) (L2.wipe σ vs) H3 x _ ρ1 re3.stx rx e _ fun σ4 x4 k4 l4 => ⟨?_, ?_⟩
        · rw [wipe_eq (τ := L2.wipe σ vs) l4 fun k hk => k4 k fun z => hk (hv k z), wipe_wipe]
        · have re4 := x4.env
          show tG X.K X.mg (Wat W σ) f σ4 H3 _
          have q := Out.bind q
          have s03 : Same H H3 := s1.trans (s2.trans s3)
          refine ⟨ρ1, re4, ?_⟩
          cases ef : f ρ1 with
          | st => rw [ef] at q; exact q.elim
          | ex c =>
            rw [ef] at q
            obtain ⟨C, q1, q2⟩ := q
            exact ⟨C, q1, fun H' sH => q2 H' (s03.trans sH)⟩
          | ok y =>
            rw [ef] at q
            have q := Out.bind q
            intro v H6 C s6 f6 n6
            have sA : Same H2 H6 := s3.trans s6
            have hD6 : H6 D = some (.lst acc) := sA _ _ hL
            have nDC : D ∉ C := fun z => by
              have := n6 D z
              rw [s3 _ _ hL] at this
              cases this
            have f1 : Fus X.K H6 (acc ++ [v]) (ys ++ [y]) (B ++ (C ++ [])) := (fu.same sA).app (.cons f6 .nil fun _ _ z => nomatch z) fun a ha hb => by
              rw [List.append_nil] at hb
              obtain ⟨o, ho⟩ := fu.there a ha
              have := n6 a hb
              rw [s3 _ _ ho] at this
              cases this
            have nD' : D ∉ B ++ (C ++ []) := fun z => by
              rw [List.append_nil] at z
              exact (List.mem_append.mp z).elim nD nDC
            have nB' : ∀ a ∈ B ++ (C ++ []), H1 a = none := fun a ha => by
              rw [List.append_nil] at ha
              rcases List.mem_append.mp ha with z | z
              · exact nB a z
              · cases e1 : H1 a with
                | none => rfl
                | some o =>
                  have := n6 a z
                  rw [s3 _ _ (s2 _ _ e1)] at this
                  cases this
            refine ⟨acc, hD6, Nat.lt_of_le_of_lt hacc (Nat.lt_of_lt_of_le hlt hz), acc ++ [v], ys ++ [y], B ++ (C ++ []), fun b o hb => ?_, upd_same, f1.at (fun a ha => upd_ne fun z => nD' (z ▸ ha)) (fun b ot st hq => ?_), nD', nB', ?_, ?_⟩
            · rw [upd_ne (ne_of_none hb hD)]
              exact s6 _ _ (s3 _ _ (s2 _ _ hb))
            · rw [upd_ne (fun z => by rw [z, hD6] at hq; cases hq; exact st)]
              exact hq
            · rw [List.length_append, List.length_singleton]; omega
            · refine q.mono fun r _ q => ?_
              rw [List.append_assoc]
              exact q
    · have e : i = ds.length := by omega
      subst e
      rw [List.drop_length] at q
      have q : ∀ v H' A, Same H H' → Fu X.K H' v (.lst (ys ++ [])) A → (∀ a ∈ A, H a = none) → Q v H' := q
      refine .inl ⟨stop (Nat.le_refl _), q _ H2 (D :: B) (s1.trans s2) (by rw [List.append_nil]; exact .lst hL fu nD) fun a ha => ?_⟩
      rcases List.mem_cons.mp ha with z | z
      · rw [z]; exact s1.free hD
      · exact s1.free (nB a z)
end
section
variable {X : Cx} {W : WX} {own0 : List Nat} {ol : Ol} {elt tg iter : Expr} {scope : Scope} {own : List (Str × Nat)} {slots : List Nat} {pos spos : Pos} {fi : Env → R (List D)} {tf : D → Env → Option Env} {f : Env → R D} {g : TG}
/-- what a call of the block is to be handed -/
abbrev PassB (X : Cx) (W : WX) : Prop := ∀ σ', PassesAt (L2.CX X.prog X.w) X σ' (WE W σ')
theorem vg_lcX (hst : X.stack = X.env :: X.outer) (hf : X.env.frame = some X.env.locals) (tkx : Takes X W) (hc : X.calm = true) (hN : X.N.Nodup) (hi : VI X W [] tg iter fi) (ok : BlkOk X.N X.env.scope scope own) (tk : TgOk X [] slots g tf)
    (hg : ∀ (s : Shared) (H : Hp) (C : Addr) (cl : List (Str × Addr)) (fp : List Addr) (xe : Value → Shared → Prop), PG (blkE X s H scope (compEnvC scope cl C X.env) fp xe) tg g)
    (he : ∀ (W' : WX) (s : Shared) (H : Hp) (C : Addr) (cl : List (Str × Addr)) (fp : List Addr) (xe : Value → Shared → Prop), PassB (blkE X s H scope (compEnvC scope cl C X.env) fp xe) W' → VG (blkE X s H scope (compEnvC scope cl C X.env) fp xe) W' elt f)
    (hv : ∀ k ∈ slots, k ∈ own.map (·.2) := by decide) (hs : ∀ x, foldedSetIterable iter X.env x = pure x := by intro _; rfl) : VG X W (.ListComp elt [⟨tg, iter, [], 0⟩] scope pos) (lcXE (own.map (·.2)) fi tf f) :=
  ⟨peW (pe_lcX (te := fun σ => tG X.K X.mg (Wat W σ) f) hst hf tkx hc hN hi.pi ok hg (fun σ s H C cl fp xe p => (he (Wat W σ) s H C cl fp xe p).pe) hs) fun σ H Q q => tLcX_of rfl rfl tk hv q⟩
theorem vs_setLcX (i : Nat) {y : Str} {py : Pos} (hst : X.stack = X.env :: X.outer) (hf : X.env.frame = some X.env.locals) (tkx : Takes X W) (hc : X.calm = true) (hN : X.N.Nodup) (hy : X.N[i]? = some y) (hyl : X.env.scope.names.lookup y = some .local) (hsw : swapsWith (.ListComp elt [⟨tg, iter, [], 0⟩] scope pos) (some (.Name y py)) spos.line X.env = pure true)
    (hi : VI X W [] tg iter fi) (ok : BlkOk X.N X.env.scope scope own) (tk : TgOk X [] slots g tf)
    (hg : ∀ (s : Shared) (H : Hp) (C : Addr) (cl : List (Str × Addr)) (fp : List Addr) (xe : Value → Shared → Prop), PG (blkE X s H scope (compEnvC scope cl C X.env) fp xe) tg g)
    (he : ∀ (W' : WX) (s : Shared) (H : Hp) (C : Addr) (cl : List (Str × Addr)) (fp : List Addr) (xe : Value → Shared → Prop), PassB (blkE X s H scope (compEnvC scope cl C X.env) fp xe) W' → VG (blkE X s H scope (compEnvC scope cl C X.env) fp xe) W' elt f)
    (hv : ∀ k ∈ slots, k ∈ own.map (·.2) := by decide) (hs : ∀ x, foldedSetIterable iter X.env x = pure x := by intro _; rfl) (we : ∀ i ∈ ol.e, i ∈ own0 := by first | decide | (dsimp only; decide)) (hp : ol.P i = none := by rfl) : VS X W own0 (i :: own0) ol (.Assign [.Name y py] (.ListComp elt [⟨tg, iter, [], 0⟩] scope pos) spos) (asgS i (lcXE (own.map (·.2)) fi tf f)) :=
  ⟨psW (ps_setLcX (i := i) (te := fun σ => tG X.K X.mg (Wat W σ) f) hst hf tkx hc hN hy hyl hsw hi.pi ok hg (fun σ s H C cl fp xe p => (he (Wat W σ) s H C cl fp xe p).pe) hs) fun D σ H ⟨B, ρ, x, pn, q⟩ => tLcX_of (Q := fun v H1 => gName i v σ H1 D.nx) rfl rfl tk hv ⟨ρ, x.env, (SEnd.out x pn we q).mono fun d _ q v H' A s fu n => by
    obtain ⟨S, F, b, y⟩ := x
    exact q _ _ ⟨_, _, b.trans (ext_s []), y.put s fu n i⟩ (pn.set hp)⟩⟩
end
theorem vg_callP {X : Cx} {W : WX} {x : Str} {k n : Nat} {f : Addr} {fd : FuncData} {ps : List Str} {m : List D → R D} {p pos : Pos} {e : Expr} {es : List Expr} {fs : Env → R (List D)} (F : FnOk X.prog X.w X.K X.mg X.base (L2.CX X.prog X.w) k f fd ps (spF X.K X.mg n m)) (hr : Room k X.A) (pb : PassB X W) (hg : Gl X x) (hm : X.mg x = some (.ref f)) (hk : PySem.W.keepIn X.K (.ref f) = true) (hb : Binds X.K fd ps [])
    (ha : VA X W (e :: es) fs) (hl : LenA fs n) (hdb : (x == ("__debug__" : Str)) = false := by decide) (he : starEach (e :: es) X.env = (false, eval e X.env) :: starEach es X.env := by rfl) (hpl : (backTo pos (starEach es X.env)).any (·.1) = false := by rfl) :
    VG X W (.Call (.Name x p) (e :: es) [] pos) (callF m fs) := ⟨peW (pe_callS F hr hg hm hk hb pb ha.pa hdb he hpl) fun σ H Q ⟨ρ, re, o⟩ => ⟨ρ, re, (Out.bind o).mono fun ds hd q vs H1 s1 r1 => by
  refine ⟨r1.length.trans (hl ρ ds hd), ds, r1, ?_⟩
  cases hz : m ds with
  | ok d => rw [hz] at q; exact fun v H' A s2 f2 n2 => q v H' A (s1.trans s2) f2 fun a z => s1.free (n2 a z)
  | ex c => rw [hz] at q; obtain ⟨C, h1, h2⟩ := q; exact ⟨C, h1, fun H' s2 => h2 H' (s1.trans s2)⟩
  | st => rw [hz] at q; exact q.elim⟩⟩
theorem vg_fnP {X : Cx} {W : WX} {x : Str} {ps : List Str} {k k' : Nat} {m : List D → R D} {p pos : Pos} {e : Expr} {es : List Expr} {fs : Env → R (List D)} (C : Cal X.prog X.w X.K X.mg X.base x ps k m) (hr : Room k' X.A) (pb : PassB X W) (hg : Gl X x)
    (ha : VA X W (e :: es) fs) (hl : LenA fs ps.length) (hk : k ≤ k' := by decide) (hdb : (x == ("__debug__" : Str)) = false := by decide) (he : starEach (e :: es) X.env = (false, eval e X.env) :: starEach es X.env := by rfl) (hpl : (backTo pos (starEach es X.env)).any (·.1) = false := by rfl) :
    VG X W (.Call (.Name x p) (e :: es) [] pos) (callF m fs) := by
  obtain ⟨f, fd, h1, h2, h3, h4⟩ := C
  exact vg_callP h4 (hr.mono hk) pb hg h1 h2 h3 ha hl hdb he hpl
end Vs

namespace Vs
open PySem PySem.Spec PyProof.Rows L2

/-! ### a new list is emptied -/
def clearGS (f : Env → R D) (ρ : Env) : Sr := bindS (f ρ) ρ fun d => match d with
  | .lst _ => .nx ρ
  | _ => .st
section
variable {X : Cx} {W : WX} {own : List Nat} {ol : Ol} {st : Stmt} {f : Env → R D}
theorem vs_clearG (p : PS X st (tDrop (tBM0 X.K "list" rClear (tG X.K X.mg W f)))) (we : ∀ i ∈ ol.e, i ∈ own := by first | decide | (dsimp only; decide)) : VS X W own own ol st (clearGS f) := ⟨psW p fun D σ H ⟨B, ρ, x, pn, q⟩ => ⟨ρ, x.env, (SEnd.out x pn we q).mono fun d _ q v H1 A s1 f1 n1 => by
  split at q
  · rename_i ds
    obtain ⟨pa, vs, A', rfl, eF, hp, r, n⟩ := f1.list
    refine ⟨.inl ⟨rfl, _, .inl (.inl hp)⟩, pa, vs, rfl, rfl, hp, ?_⟩
    refine q _ _ (x.grow fun b o hb => ?_) pn
    have ne : b ≠ pa := fun z => by
      have := n1 pa (by rw [eF]; exact List.mem_cons_self)
      rw [← z, hb] at this
      cases this
    rw [upd_ne ne]
    exact s1 b o hb
  · exact q.elim⟩⟩
end
end Vs
namespace Vs
open PySem PySem.Spec PyProof.Rows L2
/-! ### comparisons and `and`, `or` of what changes slots -/
def cmpXv (g : D → D → R D) (f : Env → RX D) (h : Env → R D) (ρ : Env) : RX D := (f ρ).bind fun d ρ' => liftR ((h ρ').bind (g d)) ρ'
def andXV (f g : Env → RX D) (ρ : Env) : RX D := (f ρ).bind fun d ρ' => match d with
  | .bl true => g ρ'
  | .bl false => .ok (.bl false) ρ'
  | _ => .st
def orXV (f g : Env → RX D) (ρ : Env) : RX D := (f ρ).bind fun d ρ' => match d with
  | .bl true => .ok (.bl true) ρ'
  | .bl false => g ρ'
  | _ => .st
section
variable {X : Cx} {W : WX} {own : List Nat} {a b : Expr} {f g : Env → RX D} {h : Env → R D} {pos : Pos}
theorem tCmpX_of {r : R2} {g : D → D → R D} (k : OpD X r g) (n : NoEx2 g) {σ : L2.St} {H : Hp} {Q : VK} (hh : tX X.K X.mg W own (cmpXv g f h) σ H Q) : tOp r (tX X.K X.mg W own f) (tF X.K X.mg W h) σ H Q := by
  obtain ⟨B, ρ, st, o⟩ := hh
  refine ⟨B, ρ, st, (OutX.bind o).mono fun d ρ' _ q v H1 z => ?_⟩
  have zs : Sta own B X.K ρ' σ H1 := z.sta
  obtain ⟨S, F, A, b, y, fu, n1, n2⟩ := z
  have q := Out.bind (OutX.lift zs q)
  refine ⟨ρ', zs.env, q.mono fun e _ q w H2 s2 r2 => ?_⟩
  cases hz : g d e with
  | ok u =>
    rw [hz] at q
    exact k v w d e H2 _ u (fu.rd.mono s2) r2 hz fun u' H3 A3 s3 f3 n3 => q u' H3 ((zs.grow s2).staV s3 f3 n3)
  | ex c => exact absurd hz (n d e c)
  | st => rw [hz] at q; exact q.elim
theorem vx_cmp {op : CmpOp} {r : R2} {g : D → D → R D} (ho : OpR X (compareOp op) r) (k : OpD X r g) (n : NoEx2 g) (ha : VX X W own a f) (hb : VE X W b h) (hm : behindInMarks op b = false) : VX X W own (.Compare a [op] [b] pos) (cmpXv g f h) :=
  ⟨peW (pe_cmpR ho ha.pe hb.pe hm) fun σ H Q q => tCmpX_of k n q⟩
theorem vxt_cmp {op : CmpOp} {r : R2} {g : D → D → R D} (ho : OpR X (compareOp op) r) (k : OpD X r g) (n : NoEx2 g) (ha : VX X W own a f) (hb : VE X W b h) (hm : behindInMarks op b = false) : VXT X W own (.Compare a [op] [b] pos) (boolX (cmpXv g f h)) :=
  ⟨ptW (pt_cmpR ho ha.pe hb.pe hm) fun σ H Q ⟨B, ρ, x, o⟩ => tCmpX_of k n (Q := fun x H' => ∃ k, x = .bl k ∧ Q k H') ⟨B, ρ, x, (OutX.bind o).mono fun d ρ' _ q v H' z => by
    have zs := z.sta
    obtain ⟨S, F, A, b, y, f, n1, n2⟩ := z
    cases f with
    | bl k => exact ⟨k, rfl, q H' zs⟩
    | _ => exact q.elim⟩⟩
theorem vx_one {op} (ha : VX X W own a f) : VX X W own (.BoolOp op [a] pos) f := ⟨pe_one ha.pe⟩
theorem vx_and {rest : List Expr} (ha : VX X W own a f) (hb : VX X W own (.BoolOp .And (b :: rest) pos) g) : VX X W own (.BoolOp .And (a :: b :: rest) pos) (andXV f g) :=
  ⟨peW (pe_and ha.pe hb.pe) fun σ H Q ⟨B, ρ, st, o⟩ => ⟨B, ρ, st, (OutX.bind o).mono fun d ρ' _ q v H1 z => by
    have zs : Sta own B X.K ρ' σ H1 := z.sta
    obtain ⟨S, F, A, b, y, fu, n1, n2⟩ := z
    cases fu with
    | bl k =>
      refine ⟨k, rfl, ?_⟩
      cases k with
      | true => rw [if_pos rfl]; exact ⟨B, ρ', zs, q⟩
      | false => rw [if_neg Bool.false_ne_true]; exact q _ H1 (zs.staV (Same.refl _) (.bl _) (fun _ h => nomatch h))
    | _ => exact q.elim⟩⟩
theorem vx_or {rest : List Expr} (ha : VX X W own a f) (hb : VX X W own (.BoolOp .Or (b :: rest) pos) g) : VX X W own (.BoolOp .Or (a :: b :: rest) pos) (orXV f g) :=
  ⟨peW (pe_or ha.pe hb.pe) fun σ H Q ⟨B, ρ, st, o⟩ => ⟨B, ρ, st, (OutX.bind o).mono fun d ρ' _ q v H1 z => by
    have zs : Sta own B X.K ρ' σ H1 := z.sta
    obtain ⟨S, F, A, b, y, fu, n1, n2⟩ := z
    cases fu with
    | bl k =>
      refine ⟨k, rfl, ?_⟩
      cases k with
      | false => rw [if_neg Bool.false_ne_true]; exact ⟨B, ρ', zs, q⟩
      | true => rw [if_pos rfl]; exact q _ H1 (zs.staV (Same.refl _) (.bl _) (fun _ h => nomatch h))
    | _ => exact q.elim⟩⟩
end
end Vs

namespace PySem
section
variable {prog : Program} {w : World} {K : Type} [DecidableEq K] {knd : HeapKind prog w K} {A : Around} {E : Value → Shared → Prop} {s : Shared}
/-- dict(d): keys that are tuples -/
theorem vs_call_dictH {o : Addr} {more : List (K × Addr × Value)} {Q : Value → Shared → Prop} (hu : knd.room A.in1.in1) (hoS : (o == sysModules) = false) (ho : s.heap.DictOfH knd o more) (hty : ∀ x ∈ more, s.TypeIs (.ref x.2.1) "tuple") (hap : (more.map fun x => knd.hash x.1).Nodup) (hsz : more.length ≤ sizeLine)
    (hst : ∀ h', (∀ b q, s.heap.get? b = some q → h'.get? b = some q) → ∀ x ∈ more, knd.is h' x.1 x.2.1)
    (h : ∀ h', h'.DictOfH knd s.heap.objs.size more → Heap.SameBut s.heap.objs.size (s.heap.push { cls := .type "dict", data := .dict #[] }) h' → Q (.ref s.heap.objs.size) { s with heap := h' }) :
    wpAny (model prog w) A (call (.type "dict") [.ref o]) Q E s := by
  refine callType_codes (Q₁ := fun obj s₁ => obj = .ref s.heap.objs.size ∧ s₁ = { s with heap := s.heap.push { cls := .type "dict", data := .dict #[] } }) F.kt_called_dict (F.kt_typeCall_dict_1 _) F.entry_dict_init (kt_code_dict_new _ ⟨rfl, rfl⟩) ?_
  rintro obj s₁ ⟨rfl, rfl⟩
  have hnew : (s.heap.push { cls := .type "dict", data := .dict #[] }).DictOfH knd s.heap.objs.size [] := Heap.DictOfH.new s.heap
  have ho' : (s.heap.push { cls := .type "dict", data := .dict #[] }).DictOfH knd o more := ho.at' (fun q e => Heap.get?_push_of_some _ e) (hst _ fun b q e => Heap.get?_push_of_some _ e)
  have hn : (more.map (·.1)).Nodup := ho.nodup
  have hdo : s.heap.objs.size ≠ o := by
    obtain ⟨_, _, _, hg, _⟩ := ho
    exact fun e => absurd (Heap.lt_size hg) (by rw [e]; exact Nat.lt_irrefl _)
  refine ⟨hnew.typeIs, F.args_dict_init_2 _ _, ?_⟩
  unfold Builtin.«dict.__init__»
  refine wpAny_bind ?_
  unfold Builtin.Dict.selfAndRest
  refine wpAny_bind (wpAny_notOrdered_dict hnew.typeIs ?_)
  show wpAny _ _ (pure (s.heap.objs.size, [Value.ref o])) _ _ _
  refine wpAny_pure ?_
  show wpAny _ _ (Builtin.Dict.updateFrom "dict.__init__" s.heap.objs.size (.ref o) [] .none) _ _ _
  unfold Builtin.Dict.updateFrom
  refine wpAny_bind (wpAny_typeOf ho'.typeIs ?_)
  rw [if_neg (by decide)]
  refine wpAny_bind ?_
  unfold Builtin.Dict.merge
  refine wpAny_bind ?_
  unfold Builtin.Dict.readDirectly
  refine wpAny_bind (wpAny_isInstance ho'.typeIs isSubtype_dict_dict ?_)
  simp only [Bool.not_true, Bool.false_eq_true, if_false]
  refine wpAny_bind (wpAny_specialOf ho'.typeIs F.slot_dict_iter.lookup (wpAny_pure ?_))
  simp only [beq_self_eq_true, if_true]
  refine wpAny_bind (wpAny_pure ?_)
  refine wpAny_mergeDict_heap (hsz := by simpa using hsz) hu hdo hoS hnew ho' (.inr ⟨fun x hx => ?_, hap⟩) fun h' hd' _ hs' => ?_
  · obtain ⟨q, e, c⟩ := hty x hx
    exact ⟨q, Heap.get?_push_of_some _ e, c⟩
  · show wpAny _ _ (Builtin.Dict.addKeywords s.heap.objs.size [] >>= _) _ _ _
    rw [storedAllH_nil_of_nodup more hn] at hd'
    exact wpAny_bind (wpAny_pure (wpAny_pure ⟨rfl, h h' hd' hs'⟩))
end
end PySem
namespace Vs
open PySem PySem.Spec PyProof.Rows L2
/-! ### dict(d): keys that are pairs of small numbers hash apart -/
def hp2 (p : Nat × Nat) : Int := reduceHash (Builtin.Tuple.tupleHashOf [hashInt p.1, hashInt p.2])
def smallP (i j : Nat) : Bool := decide (i < 64) && decide (j < 64) && (decide (i < 12) && decide (j < 12) || i == 0 || j == 0)
def gpairs : List (Nat × Nat) := (List.range 64).flatMap fun i => ((List.range 64).filter fun j => smallP i j).map fun j => (i, j)
theorem gpairs_mem {i j : Nat} (h : smallP i j = true) : (i, j) ∈ gpairs := by
  have h' := h
  unfold smallP at h'
  simp only [Bool.and_eq_true, decide_eq_true_eq] at h'
  exact List.mem_flatMap.mpr ⟨i, List.mem_range.mpr h'.1.1, List.mem_map.mpr ⟨j, List.mem_filter.mpr ⟨List.mem_range.mpr h'.1.2, h⟩, rfl⟩⟩
def apart : List Int → Bool
  | [] => true
  | x :: xs => xs.all (fun y => x != y) && apart xs
theorem apart_gpairs : apart (gpairs.map hp2) = true := by decide +kernel
theorem apart_inj {α : Type} {f : α → Int} : ∀ {l : List α}, apart (l.map f) = true → ∀ p ∈ l, ∀ q ∈ l, f p = f q → p = q
  | [], _, p, hp, _, _, _ => nomatch hp
  | x :: l, h, p, hp, q, hq, e => by
    rw [List.map_cons, apart, Bool.and_eq_true] at h
    have hx : ∀ y ∈ l, f x ≠ f y := fun y hy => by
      have := List.all_eq_true.mp h.1 (f y) (List.mem_map.mpr ⟨y, hy, rfl⟩)
      simpa using this
    rcases List.mem_cons.mp hp with e1 | hp
    · rcases List.mem_cons.mp hq with e2 | hq
      · rw [e1, e2]
      · rw [e1] at e
        exact absurd e (hx q hq)
    · rcases List.mem_cons.mp hq with e2 | hq
      · rw [e2] at e
        exact absurd e.symm (hx p hp)
      · exact apart_inj h.2 p hp q hq e
theorem hp2_inj {i j a b : Nat} (h : smallP i j = true) (k : smallP a b = true) (e : hp2 (i, j) = hp2 (a, b)) : (i, j) = (a, b) := apart_inj apart_gpairs _ (gpairs_mem h) _ (gpairs_mem k) e
/-- a pair of small numbers -/
def goodK : D → Bool
  | .tup [.int i, .int j] => decide (0 ≤ i) && decide (0 ≤ j) && smallP i.toNat j.toNat
  | _ => false
theorem goodK_key {l : List Key} (h : goodK (.tup (l.map keyD)) = true) : ∃ i j : Nat, l = [.inl (i : Int), .inl (j : Int)] ∧ smallP i j = true := by
  match l, h with
  | [.inl i, .inl j], h =>
    simp only [List.map_cons, List.map_nil, keyD, goodK, Bool.and_eq_true, decide_eq_true_eq] at h
    exact ⟨i.toNat, j.toNat, by rw [Int.toNat_of_nonneg h.1.1, Int.toNat_of_nonneg h.1.2], h.2⟩
  | [.inr _, _], h => exact absurd h (by simp [keyD, goodK])
  | [.inl _, .inr _], h => exact absurd h (by simp [keyD, goodK])
  | [], h => exact absurd h (by simp [goodK])
  | [.inl _], h => exact absurd h (by simp [keyD, goodK])
  | [_] , h => rename_i x; cases x <;> exact absurd h (by simp [keyD, goodK])
  | _ :: _ :: _ :: _, h => exact absurd h (by simp [goodK])
theorem nodup_hash {P : Program} {w : World} : ∀ {l : List (List Key)}, l.Nodup → (∀ k ∈ l, goodK (.tup (k.map keyD)) = true) → (l.map fun k => (tupleKind (mixKind P w)).hash k).Nodup
  | [], _, _ => List.nodup_nil
  | k :: l, n, g => by
    rw [List.nodup_cons] at n
    rw [List.map_cons, List.nodup_cons]
    refine ⟨fun m => ?_, nodup_hash n.2 fun q hq => g q (List.mem_cons_of_mem _ hq)⟩
    obtain ⟨q, hq, e⟩ := List.mem_map.mp m
    obtain ⟨i, j, e1, s1⟩ := goodK_key (g k List.mem_cons_self)
    obtain ⟨a, b, e2, s2⟩ := goodK_key (g q (List.mem_cons_of_mem _ hq))
    subst e1 e2
    have := hp2_inj s1 s2 e.symm
    injection this with x y
    subst x y
    exact n.1 hq
def dcopyD : List D → R D
  | [.dic t ks vs] => if immDs vs = true ∧ (t = true → ks.all goodK = true) then .ok (.dic t ks vs) else .st
  | _ => .st
theorem nx_dcopy : NoEx1 dcopyD := fun ds c h => by unfold dcopyD at h; split at h <;> first | cases h | (split at h <;> cases h)
def rDictC (X : Cx) : List V → Hp → VK → Prop := fun xs H Q => (∃ (a : Addr) (kvs : List (Key × V)), xs = [.ref a] ∧ L2.Rd H a (.dK kvs) ∧ ∀ p, H p = none → Q (.ref p) (upd H p (.dK kvs))) ∨
  (∃ (a : Addr) (kvs : List (List Key × V)), xs = [.ref a] ∧ H a = some (.dT kvs) ∧ (∀ k ∈ kvs.map (·.1), goodK (.tup (k.map keyD)) = true) ∧ ∀ p, H p = none → Q (.ref p) (upd H p (.dT kvs)))
theorem KT_keys {H : Hp} {kvs : List (List Key × V)} {xs : List (List Key × Addr × Value)} (r : KT H kvs xs) : xs.map (·.1) = kvs.map (·.1) := by
  induction r with
  | nil => rfl
  | cons h _ ih => rw [List.map_cons, List.map_cons, ih, h.1]
theorem KT_mem {H : Hp} {kvs : List (List Key × V)} {xs : List (List Key × Addr × Value)} (r : KT H kvs xs) : ∀ x ∈ xs, ∃ k : List Key, x.1 = k ∧ H x.2.1 = some (.tup (k.map kV)) := by
  induction r with
  | nil => exact fun x h => nomatch h
  | @cons p q ps qs h _ ih =>
    intro x hx
    rcases List.mem_cons.mp hx with e | hx
    · subst e
      exact ⟨_, rfl, by rw [← h.1]; exact h.2.1⟩
    · exact ih x hx
theorem call_dictC {X : Cx} (hu : X.A.units + 64 < cLine) : CallR X (.type "dict") (rDictC X) := by
  intro pins s σ H xs us Q I r q
  rcases q with q | ⟨a, kvs, ex, hd, hg, q⟩
  · exact call_dictD pins s σ H xs us Q I r q
  subst ex
  obtain ⟨u, eu, rx⟩ := vals1 r
  subst eu
  cases rx
  obtain ⟨z, lo, xs, rel, dd⟩ := dt_of I.hok hd
  have hk : ∀ h' : Heap, (∀ b q, s.heap.get? b = some q → h'.get? b = some q) → ∀ x ∈ xs, (tupleKind (mixKind X.prog X.w)).is h' x.1 x.2.1 := fun h' keep x hx => by
    obtain ⟨k, e, hb⟩ := KT_mem rel x hx
    rw [e]
    obtain ⟨o, its, n, h1, h2, h3, h4⟩ := key_of I.hok hb
    exact ⟨o, its, n, keep _ _ h1, h2, h3, h4⟩
  have hap : (xs.map fun x => (tupleKind (mixKind X.prog X.w)).hash x.1).Nodup := by
    have := nodup_hash (P := X.prog) (w := X.w) dd.nodup (fun k hk => hg k (by rw [KT_keys rel] at hk; exact hk))
    rw [List.map_map] at this
    exact this
  refine vs_call_dictH (knd := tupleKind (mixKind X.prog X.w)) (show X.A.units + 1 + 1 < cLine by omega) lo dd (fun x hx => ?_) hap (by rw [← Paired.length rel]; exact z) hk fun h' d' hs => ?_
  · obtain ⟨o, its, n, h1, h2, h3, h4⟩ := hk s.heap (fun _ _ e => e) x hx
    exact ⟨o, h1, h2⟩
  have hm : (s.heap.objs.size == sysModules) = false := beq_eq_false_iff_ne.mpr (Nat.ne_of_gt I.big)
  obtain ⟨q', es, ep, hq, h2, h3, h4, _, h5⟩ := d'
  refine ⟨.ref s.heap.objs.size, upd H s.heap.objs.size (.dT kvs), I.laid (t' := s.toks) (fun b u e => (hs.2 b (Nat.ne_of_lt (Heap.lt_size e))).trans (Heap.get?_push_of_some _ e)) (Nat.le_refl _)
    (show ObjOk X.prog X.w _ _ _ (.dT kvs) from ⟨z, hm, xs, rel.keeps fun b ys e => ?_, q', es, ep, hq, h2, h3, h4, h5⟩), rfl, q _ (I.hok.fresh (Nat.le_refl _))⟩
  rw [upd_ne (fun e' => by rw [e', I.hok.fresh (Nat.le_refl _)] at e; cases e)]
  exact e
theorem cb_dict {X : Cx} : CbD X (rDictC X) dcopyD := fun vs ds H Q z r h q => by
  unfold dcopyD at h
  split at h
  · rename_i t ks ws
    by_cases c : immDs ws = true ∧ (t = true → ks.all goodK = true)
    rotate_left
    · rw [if_neg c] at h; cases h
    rw [if_pos c] at h
    cases h
    obtain ⟨v, rfl, h1⟩ := rds1 r
    cases h1 with
    | @dk a kvs _ _ h1 e r1 =>
      refine .inl ⟨a, kvs, rfl, .inl h1, fun p hp => q _ _ [p] (new_same hp) (.dk upd_same e ((r1.fu c.1).same (new_same hp)) fun z => nomatch z) fun a ha => by rw [List.mem_singleton.mp ha]; exact hp⟩
    | @dt a kvs _ _ h1 e r1 =>
      refine .inr ⟨a, kvs, rfl, h1, fun k hk => ?_, fun p hp => q _ _ [p] (new_same hp) (.dt upd_same e ((r1.fu c.1).same (new_same hp)) fun z => nomatch z) fun a ha => by rw [List.mem_singleton.mp ha]; exact hp⟩
      have := List.all_eq_true.mp (c.2 rfl) (.tup (k.map keyD)) (by
        rw [e]
        obtain ⟨p, hp, e2⟩ := List.mem_map.mp hk
        exact List.mem_map.mpr ⟨p, hp, by rw [e2]⟩)
      exact this
  · cases h
end Vs

namespace Vs
open PySem PySem.Spec PyProof.Rows L2
/-! ### defs that are handed the caught error -/
/-- what a def promises while p's object stands by -/
structure FnP (P : Program) (w : World) (K : PySem.W.Frag) (mg : Str → Option Value) (base : Heap) (CX : CXT) (k : Nat) (f : Addr) (fd : FuncData) (ps : List Str) (sp : Sp) (p : Addr × Obj) : Prop where
  len : ∀ vs H Q E, sp vs H Q E → vs.length = ps.length
  run : ∀ (A : Around) (outer : List PySem.Env) (s : Shared) (H : Hp) (args : Args) (us : List Value) (vs : List V) (Q : VK) (E : XK), L2H.RoomH k A → L2H.PinOk outer H s p → Env0 P w K mg base A outer s H → BindsTo s fd args (ps.zip us) → Vals vs us → sp vs H Q E →
    codeAny (model P w) A (.call (.ref f) args) (CR CX outer P w H s Q E) s
theorem fn_ofP {CX : CXT} {P : Program} {w : World} {K : PySem.W.Frag} {mg : Str → Option Value} {base : Heap} {k : Nat} {f : Addr} {name qual : Str} {params : Arguments} {body : List Stmt} {scope : Scope} {dV kV doc pm cdv ct oc : Value} {an od : Option Addr}
    {osl : Array (Option Value)} {N ps : List Str} {sp : Sp} {p : Addr × Obj} (lk : K.lookup f = some ⟨oc, od, .func (PySem.W.fnOf name qual params body scope dV kV doc pm an cdv ct), osl⟩) (hcd : PySem.W.codeIn K cdv qual = true) (S : FnScope N ps scope)
    (len : ∀ vs H Q E, sp vs H Q E → vs.length = ps.length)
    (hbody : ∀ (A : Around) (outer : List PySem.Env) (s : Shared) (H : Hp) (vs : List V) (Q : VK) (E : XK), L2H.RoomH k (A.deeper (envOfC qual scope s.heap.objs.size f cdv)) → sp vs H Q E →
      ∃ t, PSs (L2H.cxH CX P w K mg base N qual scope f cdv A outer s H E p) body t ∧ t { nx := fun _ H' => Q .non H', rt := Q } (L2.start N vs) H) :
    FnP P w K mg base CX (k + 1) f (PySem.W.fnOf name qual params body scope dV kV doc pm an cdv ct) ps sp p := by
  refine ⟨len, fun A outer s H args us vs Q E hr hpin e0 hb r hsp => ?_⟩
  have hl := len _ _ _ _ hsp
  have KX : K.In s.heap := e0.mod.kin.keeps fun b o e => (e0.bs b o e).1
  have lim : s.heap.NoLimit := e0.mod.nolimit.keeps fun b o e => (e0.bs b o e).1
  have hkind : ∀ y ∈ ps.zip us, scope.names.lookup y.1 = some .local ∨ (scope.names.lookup y.1 = some .cell ∧ ((cellsFrom (s.heap.objs.size + 1) scope.names []).lookup y.1).isSome = true) := fun ⟨n, v⟩ hy => by
    rcases S.par n (List.of_mem_zip hy).1 with q | q
    · exact .inl q
    · exact .inr ⟨q, PySem.W.cellsFrom_some _ _ _ (.inl q)⟩
  refine codeAny_call_function hr.depth (KX _ _ lk) rfl S.co S.gen rfl (PySem.W.codeRec_of KX hcd) (hb _ _ _ _ ?_)
  refine wpAny_newFunctionEnv_cells S.kind hkind fun env he s1 x => ?_
  subst he
  refine ⟨lim.keeps x.toInCall.keep, codeAny_func ?_⟩
  obtain ⟨t, ht, hq⟩ := hbody A outer s H vs Q E (hr.deeper _) hsp
  have I : Inv (L2H.cxH CX P w K mg base N qual scope f cdv A outer s H E p) [] (L2.start N vs) H s1 := L2H.inv_startH S hpin e0 hl r x
  refine wpAny_mono (ht.run [] s1 (L2.start N vs) H _ I hq) (fun fl s' hs => ?_) fun e s' hs => hs
  have fin : ∀ {σ' : L2.St} {H' : Hp} {v : V} {u : Value}, Inv (L2H.cxH CX P w K mg base N qual scope f cdv A outer s H E p) [] σ' H' s' → RelV v u → Q v H' → CE outer P w H s Q u s' :=
    fun {σ' H' v u} J rv q => ⟨v, H', J.os, J.bare, J.base, J.hok, rv, q⟩
  cases fl with
  | ret u =>
    obtain ⟨v, σ', H', J, rv, q⟩ := hs
    exact fin J rv q
  | next =>
    obtain ⟨σ', H', J, q⟩ := hs
    exact fin (v := V.non) (u := Value.none) J rfl q
  | brk =>
    obtain ⟨_, _, _, q⟩ := hs
    exact False.elim q
  | cont =>
    obtain ⟨_, _, _, q⟩ := hs
    exact False.elim q
section
variable {X : Cx} {CX : CXT} {k : Nat} {f : Addr} {fd : FuncData} {ps : List Str} {sp : Sp} {E : L2.St → XK} {x : Str} {q pos : Pos} {e : Expr} {es : List Expr} {t : TA} {p : Addr × Obj}
theorem run_fnP {pins : List (Addr × Obj)} {σ : L2.St} {H : Hp} {s : Shared} {Q : VK} {us : List Value} {vs : List V} (F : FnP X.prog X.w X.K X.mg X.base CX k f fd ps sp p) (hr : L2H.RoomH k X.A) (hp : p ∈ X.pn) (hb : Binds X.K fd ps []) (hx : PassesAt CX X σ (E σ))
    (I : Inv X pins σ H s) (r : Vals vs us) (h : sp vs H Q (E σ)) : wpAny (model X.prog X.w) X.A (call (.ref f) us) (EP X pins σ Q) X.xe s := by
  have hl : us.length = ps.length := by rw [← r.length]; exact F.len _ _ _ _ h
  have b := hb s us I.kIn (by rw [List.append_nil]; exact hl)
  rw [List.append_nil] at b
  have P1 := I.pin p (List.mem_append_left _ hp)
  have hpin : L2H.PinOk X.stack H s p := ⟨P1.1, P1.2.1, fun hm => (List.mem_cons.mp (I.stkSub p.1 hm)).elim P1.2.2.1 P1.2.2.2.1, P1.2.2.2.2⟩
  refine wpAny_call (codeAny_mono (F.run X.A X.stack s H ⟨us, []⟩ us vs Q (E σ) hr hpin I.env0 b r h) fun r s' hq => ?_)
  cases r with
  | error e => exact hx pins H s e s' I hq
  | ok fl =>
    cases fl with
    | ret u => exact I.after hq
    | next => exact False.elim hq
    | brk => exact False.elim hq
    | cont => exact False.elim hq
theorem pe_callP (F : FnP X.prog X.w X.K X.mg X.base CX k f fd ps sp p) (hr : L2H.RoomH k X.A) (hp : p ∈ X.pn) (hg : Gl X x) (hm : X.mg x = some (.ref f)) (hk : PySem.W.keepIn X.K (.ref f) = true) (hb : Binds X.K fd ps []) (hx : ∀ σ, PassesAt CX X σ (E σ))
    (ha : PA X (e :: es) t) (hdb : (x == ("__debug__" : Str)) = false := by decide) (he : starEach (e :: es) X.env = (false, eval e X.env) :: starEach es X.env := by rfl) (hpl : (backTo pos (starEach es X.env)).any (·.1) = false := by rfl) :
    PE X (.Call (.Name x q) (e :: es) [] pos) (tCallS sp E t) := by
  refine ⟨fun pins s σ H Q I h => ?_⟩
  refine wpAny_Call_Name_kw (ld_glob I hg hm ?_ hdb)
  refine PySem.W.callWith_K (h₀ := X.base) I.ok.mod.kin hk (thn (ha.run pos pins s σ H _ I h) fun us s1 ⟨vs, H1, I1, r, q⟩ => ⟨I1.kIn, ?_⟩) he hpl
  exact run_fnP F hr hp hb (hx σ) I1 r q
end
/-- the def x is handed an error of the class c that stands at a -/
def CalP (P : Program) (w : World) (K : PySem.W.Frag) (mg : Str → Option Value) (base : Heap) (x : Str) (ps : List Str) (k : Nat) (m : Str → Addr → List D → R D) : Prop :=
  ∃ f fd, mg x = some (.ref f) ∧ PySem.W.keepIn K (.ref f) = true ∧ Binds K fd ps [] ∧ ∀ (c : Str) (C : Addr), mg c = some (.ref C) → ∀ (a : Addr) (ob : Obj), Zc (.ref C) none ob → (∃ vs, ob.data = .fields vs) → FnP P w K mg base (L2.CX P w) k f fd ps (spF K mg ps.length (m c a)) (a, ob)
section
variable {P : Program} {w : World} {K : PySem.W.Frag} {mg : Str → Option Value} {base : Heap}
theorem calP_mk {x : Str} {st : Stmt} {N ps : List Str} {k : Nat} {own' : List Nat} {b : Str → Addr → Env → Sr} (F : Def K mg x st) (S : FnScope N ps (defScope st)) (hps : ps.length ≤ N.length)
    (hb : ∀ (kV doc pm : Value) (an : Option Addr) (cdv ct : Value) (us : List Value), us.length = ps.length → bindArgs (PySem.W.fnOf x x (defArgs st) (defBody st) (defScope st) .none kV doc pm an cdv ct) ⟨us, []⟩ = pure (ps.zip us))
    (hbody : ∀ (f : Addr) (cdv : Value) (A : Around) (outer : List PySem.Env) (s : Shared) (H : Hp) (E : XK) (c : Str) (C : Addr), mg c = some (.ref C) → ∀ (a : Addr) (ob : Obj), Zc (.ref C) none ob → (∃ vs, ob.data = .fields vs) → L2H.RoomH k (A.deeper (envOfC x (defScope st) s.heap.objs.size f cdv)) →
      VSs (L2H.cxH (L2.CX P w) P w K mg base N x (defScope st) f cdv A outer s H E (a, ob)) (fun cls d _ H => E cls d H) [] own' nol (defBody st) (b c a)) :
    CalP P w K mg base x ps (k + 1) (fun c a => runB N.length (b c a)) := by
  obtain ⟨f, fd, F, h⟩ := F
  refine ⟨f, fd, h, F.kp, F.binds hb, fun c C hc a ob hz hf => ?_⟩
  obtain ⟨oc, od, kV, doc, pm, an, cdv, ct, osl, rfl, lk, hcd⟩ := F.ex
  refine fn_ofP lk hcd S (fun vs H Q E h => h.1) fun A outer s H vs Q E hr hsp => ?_
  obtain ⟨hl, ds, r, h⟩ := hsp
  refine ⟨_, (hbody f cdv A outer s H E c C hc a ob hz hf hr).ps, H, _, start_env r (by rw [hl]; exact hps), Pin.nol, ?_⟩
  unfold runB at h
  simp only [] at h
  generalize b c a (ds.map some ++ List.replicate (N.length - ds.length) none) = q at h
  cases q with
  | st => exact h
  | nx ρ => exact fun σ H' y _ => h .non H' [] y.base .non (fun _ z => nomatch z)
  | rt d => exact h
  | rb d ρ => exact h.elim
  | bk ρ => exact h.elim
  | ct ρ => exact h.elim
  | ex c ρ =>
    obtain ⟨C, h1, h2⟩ := h
    exact ⟨C, h1, fun σ H' y _ => h2 H' y.base⟩
theorem roomS {k : Nat} {A : Around} {v : Option Value} (r : Room k A) : L2H.RoomH k (A.mark v) := ⟨r.dp, r.un⟩
theorem vg_fnEx {X : Cx} {W : WX} {x c : Str} {C a : Addr} {ob : Obj} {ps : List Str} {k k' : Nat} {m : Str → Addr → List D → R D} {p pos : Pos} {e : Expr} {es : List Expr} {fs : Env → R (List D)} (F : CalP X.prog X.w X.K X.mg X.base x ps k m) (hc : X.mg c = some (.ref C)) (hz : Zc (.ref C) none ob) (hf : ∃ vs, ob.data = .fields vs) (hp : (a, ob) ∈ X.pn) (hr : L2H.RoomH k' X.A) (tk : Takes X W) (hg : Gl X x)
    (ha : VA X W (e :: es) fs) (hl : LenA fs ps.length) (hk : k ≤ k' := by decide) (hdb : (x == ("__debug__" : Str)) = false := by decide) (he : starEach (e :: es) X.env = (false, eval e X.env) :: starEach es X.env := by rfl) (hpl : (backTo pos (starEach es X.env)).any (·.1) = false := by rfl) :
    VG X W (.Call (.Name x p) (e :: es) [] pos) (callF (m c a) fs) := by
  obtain ⟨f, fd, h1, h2, h3, h4⟩ := F
  refine ⟨peW (pe_callP (h4 c C hc a ob hz hf) (hr.mono hk) hp hg h1 h2 h3 (fun σ => passAt tk σ) ha.pa hdb he hpl) fun σ H Q ⟨ρ, re, o⟩ => ⟨ρ, re, (Out.bind o).mono fun ds hd q vs H1 s1 r1 => ?_⟩⟩
  refine ⟨r1.length.trans (hl ρ ds hd), ds, r1, ?_⟩
  cases hz : m c a ds with
  | ok d => rw [hz] at q; exact fun v H' A s2 f2 n2 => q v H' A (s1.trans s2) f2 fun a z => s1.free (n2 a z)
  | ex c => rw [hz] at q; obtain ⟨C, h1, h2⟩ := q; exact ⟨C, h1, fun H' s2 => h2 H' (s1.trans s2)⟩
  | st => rw [hz] at q; exact q.elim
end
/-! ### isinstance there -/
theorem call_isEP {X : Cx} {a D : Addr} {oe : Obj} (C : ExcC X.K D) (hz : Zc (.ref D) none oe) (hf : ∃ vs, oe.data = .fields vs) (hp : (a, oe) ∈ X.pn) : CallR X (.builtin "isinstance") (rIsE X.K D a) := by
  intro pins s σ H xs us Q I r h
  obtain ⟨c, cv, b, rfl, hcv, e, q⟩ := h
  cases r with
  | cons rx rr =>
    cases rr with
    | cons rt rr =>
      cases rr
      cases rx
      have ec := hcv _ rt
      subst ec
      obtain ⟨hget, _⟩ := I.pin (a, oe) (List.mem_append.mpr (.inl hp))
      obtain ⟨vs, hv⟩ := hf
      have J : PySem.W.InstAt s.heap a oe D none := by
        obtain ⟨oc, od, oda, osl⟩ := oe
        obtain ⟨h1, h2⟩ := hz
        dsimp only at h1 h2 hv
        subst h1 h2 hv
        exact ⟨hget, rfl, rfl, trivial⟩
      exact PySem.W.kia_one (PySem.W.handS_kitx_exc C.hg C.hk C.hs C.hd C.ha C.hn C.ht C.hm) I.kIn J e (fun z => nomatch z) fun tk => ⟨.bl b, H, I.kept (t' := tk) fun _ _ z => z, rfl, q⟩
section
variable {X : Cx} {W : WX} {C a : Addr} {oe : Obj} {tb : List (Str × List (Str × Bool))} {c n x : Str} {p p1 p2 pos : Pos} {i : Nat}
theorem vg_isE_coreP {v : V} {cv : Value} (hp : (a, oe) ∈ X.pn) (T : IsT X.K X.mg tb) (hc : X.mg c = some (.ref C)) (hz : Zc (.ref C) none oe) (hf : ∃ vs, oe.data = .fields vs)
    (hg : Gl X "isinstance") (hm : X.mg "isinstance" = none) (pv : PE X (.Name n p1) (tVar i)) (hT : PE X (.Name x p2) (tC v)) (hv : ∀ u, RelV v u → u = cv)
    (hx : ∀ cv', (X.mg x = some cv' ∨ (X.mg x = none ∧ bootBuiltins x = some cv')) → cv' = cv)
    (he : starEach [.Name n p1, .Name x p2] X.env = (false, eval (.Name n p1) X.env) :: starEach [.Name x p2] X.env := by rfl) (he2 : starEach [.Name x p2] X.env = [(false, eval (.Name x p2) X.env)] := by rfl) (hpl : (backTo pos (starEach [.Name x p2] X.env)).any (·.1) = false := by rfl) :
    VG X W (.Call (.Name "isinstance" p) [.Name n p1, .Name x p2] [] pos) (isE i a (isXR tb c x)) := by
  rcases isXR_ok (c := c) (x := x) T with e | ⟨b, e, C', cv', h1, h2, h3, h4⟩
  · refine ⟨⟨fun pins s σ H Q I ⟨ρ, re, q⟩ => ?_⟩⟩
    unfold isE at q
    rw [e] at q
    exfalso
    split at q
    · split at q
      · exact q
      · exact q
    · exact q
  · rw [hc] at h1
    cases h1
    have ecv := hx cv' h3
    subst ecv
    refine ⟨peW (pe_callB (call_isEP h2 hz hf hp) hg hm boot_isinstance (pa_cons pv (pa_cons hT pa_nil he2) he) (by decide) (by decide) he hpl) fun σ H Q ⟨ρ, re, q⟩ => ?_⟩
    unfold isE at q
    rw [e] at q
    split at q
    · rename_i e0 a' ea
      split at q
      · rename_i z
        subst z
        obtain ⟨w, g1, g2⟩ := re.val i _ ea
        cases g2
        exact ⟨_, g1, v, cv', b, rfl, hv, h4, q _ H [] (Same.refl H) (.bl _) (fun _ h => nomatch h)⟩
      · exact q.elim
    · exact q.elim
theorem vg_isEP (hp : (a, oe) ∈ X.pn) (T : IsT X.K X.mg tb) (hc : X.mg c = some (.ref C)) (hz : Zc (.ref C) none oe) (hf : ∃ vs, oe.data = .fields vs)
    (hg : Gl X "isinstance") (hm : X.mg "isinstance" = none) (pv : PE X (.Name n p1) (tVar i)) (hgx : Gl X x) (hx : ∃ C, X.mg x = some (.ref C)) (hdb : (x == ("__debug__" : Str)) = false := by decide)
    (he : starEach [.Name n p1, .Name x p2] X.env = (false, eval (.Name n p1) X.env) :: starEach [.Name x p2] X.env := by rfl) (he2 : starEach [.Name x p2] X.env = [(false, eval (.Name x p2) X.env)] := by rfl) (hpl : (backTo pos (starEach [.Name x p2] X.env)).any (·.1) = false := by rfl) :
    VG X W (.Call (.Name "isinstance" p) [.Name n p1, .Name x p2] [] pos) (isE i a (isXR tb c x)) := by
  obtain ⟨Cy, hy⟩ := hx
  exact vg_isE_coreP (v := .ref Cy) (cv := .ref Cy) hp T hc hz hf hg hm pv (pe_glob hgx hy rfl hdb) (fun u r => r) (fun cv' q => by rcases q with q | ⟨q, _⟩ <;> rw [hy] at q <;> cases q; rfl) he he2 hpl
theorem vg_isEBP {t : String} (hp : (a, oe) ∈ X.pn) (T : IsT X.K X.mg tb) (hc : X.mg c = some (.ref C)) (hz : Zc (.ref C) none oe) (hf : ∃ vs, oe.data = .fields vs)
    (hg : Gl X "isinstance") (hm : X.mg "isinstance" = none) (pv : PE X (.Name n p1) (tVar i)) (hgx : Gl X x) (hx : X.mg x = none) (hb : bootBuiltins x = some (.type t)) (hn : x ≠ "__name__" := by decide) (hdb : (x == ("__debug__" : Str)) = false := by decide)
    (he : starEach [.Name n p1, .Name x p2] X.env = (false, eval (.Name n p1) X.env) :: starEach [.Name x p2] X.env := by rfl) (he2 : starEach [.Name x p2] X.env = [(false, eval (.Name x p2) X.env)] := by rfl) (hpl : (backTo pos (starEach [.Name x p2] X.env)).any (·.1) = false := by rfl) :
    VG X W (.Call (.Name "isinstance" p) [.Name n p1, .Name x p2] [] pos) (isE i a (isXR tb c x)) :=
  vg_isE_coreP (v := .ty t) (cv := .type t) hp T hc hz hf hg hm pv (pe_bltn hgx hx hb rfl hn hdb) (fun u r => r) (fun cv' q => q.elim (fun q => by rw [hx] at q; cases q) fun ⟨_, q⟩ => by rw [hb] at q; cases q; rfl) he he2 hpl
end
end Vs

namespace Vs
open PySem PySem.Spec PyProof.Rows L2
/-! ### isinstance(x, c), x an object of an own class, c an own class -/
/-- what a class must have for it -/
structure ObjC (K : PySem.W.Frag) (C : Addr) : Prop where
  cl : Cls K C
  ha : PySem.W.findIn K (.ref C) "__class__" = some (some (.builtin "object.__class__"))
  hn : PySem.W.specialIn K (.builtin "object.__class__") "__get__" = some (some (.builtin "getset_descriptor.__get__"))
  ht : PySem.W.takesIn K (.builtin "object.__class__") = some true
  hm : PySem.W.mroIn K C (.type "object") = some true
def ObjK (K : PySem.W.Frag) (c : Str) : Prop := ∃ C, PySem.W.nsIn K mainGlobals c = some (some (.ref C)) ∧ ObjC K C
theorem objK_mk {K : PySem.W.Frag} {c : Str} {C : Addr} (a : PySem.W.nsIn K mainGlobals c = some (some (.ref C))) (pg : PySem.W.plainGet K C Str.empty = true) (hd : PySem.W.hasDictIn K C = true) (po : PySem.W.plainOver K C = true) (sa : PySem.W.findIn K (.ref C) "__setattr__" = some (some (.builtin "object.__setattr__")))
    (h1 : PySem.W.findIn K (.ref C) "__class__" = some (some (.builtin "object.__class__"))) (h2 : PySem.W.specialIn K (.builtin "object.__class__") "__get__" = some (some (.builtin "getset_descriptor.__get__"))) (h3 : PySem.W.takesIn K (.builtin "object.__class__") = some true) (h4 : PySem.W.mroIn K C (.type "object") = some true) : ObjK K c := ⟨C, a, ⟨pg, hd, po, sa⟩, h1, h2, h3, h4⟩
/-- an object of the class c: whether it is an x -/
def IsPO (K : PySem.W.Frag) (mg : Str → Option Value) (c x : Str) (b : Bool) : Prop := ∃ C D, PySem.W.nsIn K mainGlobals c = some (some (.ref C)) ∧ ObjC K C ∧ mg x = some (.ref D) ∧ PySem.W.kitOne K (.ref C) (.ref D) = some b
structure IsTO (K : PySem.W.Frag) (mg : Str → Option Value) (tb : List (Str × List (Str × Bool))) : Prop where
  ex : ∀ c l, tb.lookup c = some l → ∀ x b, l.lookup x = some b → IsPO K mg c x b
def IsRowO (K : PySem.W.Frag) (mg : Str → Option Value) (c : Str) (l : List (Str × Bool)) : Prop := ∀ x b, l.lookup x = some b → IsPO K mg c x b
section
variable {K : PySem.W.Frag} {mg : Str → Option Value} {h : Heap} {c x : Str} {b : Bool}
theorem isPO_own (X : K.In h) (G : h.Ns mainGlobals mg) (e : ObjK K c) (k : KitO K c x b) : IsPO K mg c x b := by
  obtain ⟨C, a, e⟩ := e
  obtain ⟨C', D, a', d, k⟩ := k
  rw [a] at a'
  cases a'
  exact ⟨C, D, a, e, PySem.W.mg_of X G d, k⟩
theorem objM_of (X : K.In h) (G : h.Ns mainGlobals mg) (e : ObjK K c) : ∃ C, mg c = some (.ref C) := by
  obtain ⟨C, a, _⟩ := e
  exact ⟨C, PySem.W.mg_of X G a⟩
theorem isRowO_nil : IsRowO K mg c [] := fun x b q => nomatch q
theorem isRowO_cons {l : List (Str × Bool)} (p : IsPO K mg c x b) (r : IsRowO K mg c l) : IsRowO K mg c ((x, b) :: l) := fun x' b' q => by
  rw [List.lookup_cons] at q
  split at q
  · rename_i z
    have z : x' = x := by simpa using z
    subst z
    cases q
    exact p
  · exact r x' b' q
theorem isTO_nil : IsTO K mg [] := ⟨fun c l q => nomatch q⟩
theorem isTO_cons {l : List (Str × Bool)} {tb : List (Str × List (Str × Bool))} (p : IsRowO K mg c l) (r : IsTO K mg tb) : IsTO K mg ((c, l) :: tb) := ⟨fun c' l' q => by
  rw [List.lookup_cons] at q
  split at q
  · rename_i z
    have z : c' = c := by simpa using z
    subst z
    cases q
    exact p
  · exact r.ex c' l' q⟩
end
def isOE (tb : List (Str × List (Str × Bool))) (x : Str) (f : Env → R D) (ρ : Env) : R D := (f ρ).bind fun d => match d with
  | .obj c _ _ => isXR tb c x
  | _ => .st
section
variable {X : Cx} {W : WX} {a : Expr} {f : Env → R D} {p p2 pos : Pos} {x : Str} {tb : List (Str × List (Str × Bool))}
theorem vg_isOE (T : IsTO X.K X.mg tb) (hg : Gl X "isinstance") (hm : X.mg "isinstance" = none) (ha : VE X W a f) (hgx : Gl X x) (hx : ∃ C, X.mg x = some (.ref C)) (hdb : (x == ("__debug__" : Str)) = false := by decide)
    (he : starEach [a, .Name x p2] X.env = (false, eval a X.env) :: starEach [.Name x p2] X.env := by rfl) (he2 : starEach [.Name x p2] X.env = [(false, eval (.Name x p2) X.env)] := by rfl) (hpl : (backTo pos (starEach [.Name x p2] X.env)).any (·.1) = false := by rfl) : VG X W (.Call (.Name "isinstance" p) [a, .Name x p2] [] pos) (isOE tb x f) := by
  obtain ⟨Dx, hy⟩ := hx
  refine ⟨peW (pe_callB call_isi hg hm boot_isinstance (pa_cons ha.pe (pa_cons (pe_glob (v := .ref Dx) hgx hy rfl hdb) pa_nil he2) he) (by decide) (by decide) he hpl) fun σ H Q ⟨ρ, re, o⟩ => ⟨ρ, re, (Out.bind o).mono fun d _ q v H1 s1 r1 => ?_⟩⟩
  show rIsi X.K [v, .ref Dx] H1 Q
  cases r1 with
  | @obj a C dx fl c ks ds g1 g2 g3 g4 g5 =>
    have q : Out X.mg W σ H (isXR tb c x) _ := q
    unfold isXR at q
    cases e1 : tb.lookup c with
    | none => rw [e1] at q; exact q.elim
    | some l =>
      rw [e1] at q
      simp only at q
      cases e2 : l.lookup x with
      | none => rw [e2] at q; exact q.elim
      | some b =>
        rw [e2] at q
        obtain ⟨C', D', k1, k2, k3, k4⟩ := T.ex c l e1 x b e2
        have g3' : PySem.W.nsIn X.K mainGlobals c = some (some (.ref C)) := g3
        rw [k1] at g3'
        cases g3'
        rw [hy] at k3
        cases k3
        exact ⟨_, .ref Dx, _, _, b, rfl, .own Dx, .base (.ins g1 k2.cl k2.ha k2.hn k2.ht k2.hm), k4, q _ H1 [] s1 (.bl b) (fun _ h => nomatch h)⟩
  | _ => exact q.elim
end
/-! ### C() where __init__ is object's -/
structure MkO (K : PySem.W.Frag) (C : Addr) : Prop where
  makes : PySem.W.makesIn K C = true
  init : PySem.W.findIn K (.ref C) "__init__" = some (some (.builtin "object.__init__"))
  kp : PySem.W.keepIn K (.ref C) = true
def MkOC (K : PySem.W.Frag) (c : Str) : Prop := ∃ C, PySem.W.nsIn K mainGlobals c = some (some (.ref C)) ∧ MkO K C
theorem mkO_mk {K : PySem.W.Frag} {c : Str} {C : Addr} (a : PySem.W.nsIn K mainGlobals c = some (some (.ref C))) (b : PySem.W.makesIn K C = true) (i : PySem.W.findIn K (.ref C) "__init__" = some (some (.builtin "object.__init__"))) (k : PySem.W.keepIn K (.ref C) = true) : MkOC K c := ⟨C, a, b, i, k⟩
/-- in the def's world -/
def MkOM (K : PySem.W.Frag) (mg : Str → Option Value) (c : Str) : Prop := ∃ C, PySem.W.nsIn K mainGlobals c = some (some (.ref C)) ∧ mg c = some (.ref C) ∧ MkO K C
theorem mkOM_of {K : PySem.W.Frag} {mg : Str → Option Value} {h : Heap} {c : Str} (X : K.In h) (G : h.Ns mainGlobals mg) (e : MkOC K c) : MkOM K mg c := by
  obtain ⟨C, a, e⟩ := e
  exact ⟨C, a, PySem.W.mg_of X G a, e⟩
def makeO (c : Str) (_ : Env) : R D := .ok (.obj c [] [])
section
variable {X : Cx} {W : WX} {C : Addr} {c x : Str} {p pos : Pos}
theorem run_makeO {pins : List (Addr × Obj)} {σ : L2.St} {H : Hp} {s : Shared} {Q : VK} (M : MkO X.K C) (I : Inv X pins σ H s)
    (h : ∀ x dx, H x = none → H dx = none → dx ≠ x → Q (.ref x) (upd (upd H dx (.own x)) x (.ins C dx []))) :
    wpAny (model X.prog X.w) X.A (call (.ref C) []) (EP X pins σ Q) X.xe s := by
  have hq := h (s.heap.objs.size + 1) s.heap.objs.size (I.hok.fresh (Nat.le_succ _)) (I.hok.fresh (Nat.le_refl _)) (Nat.ne_of_lt (Nat.lt_succ_self _))
  have I2 := Inv.made (C := C) I
  have Y := PySem.W.makes_of (M := model X.prog X.w) I.kIn M.makes
  refine wpAny_call (make_map0 I.kIn M.makes M.init (fun self => PySem.W.Looks.of_pure (PySem.W.oi_bind self)) ?_)
  have g1 : ((s.heap.push PySem.W.emptyDict).push (PySem.W.instObj C s.heap.objs.size)).get? (s.heap.objs.size + 1) = some (PySem.W.instObj C s.heap.objs.size) := by
    have := Heap.get?_push_size (s.heap.push PySem.W.emptyDict) (o := PySem.W.instObj C s.heap.objs.size) rfl
    rwa [Heap.size_push] at this
  have t1 : PySem.W.Looks (model X.prog X.w) ((s.heap.push PySem.W.emptyDict).push (PySem.W.instObj C s.heap.objs.size)) (typeOf (.ref (s.heap.objs.size + 1))) (.ref C) := (PySem.W.Looks.ld g1).andThen .now
  have t2 : PySem.W.Looks (model X.prog X.w) ((s.heap.push PySem.W.emptyDict).push (PySem.W.instObj C s.heap.objs.size)) (isInstance (.ref (s.heap.objs.size + 1)) (.type "object")) true := t1.andThen (Y.top.keeps fun b o e => Heap.get?_push_of_some _ (Heap.get?_push_of_some _ e))
  refine codeAny_call_builtin PySem.W.oi_plain PySem.W.entry_oi (@PySem.W.check_slot (model X.prog X.w) _ _ _ "object.__init__" "object" "__init__" (.ref (s.heap.objs.size + 1)) [] [] _ PySem.W.oi_kind PySem.W.oi_split t2 (PySem.W.oi_args (.ref (s.heap.objs.size + 1))) ?_)
  rw [PySem.W.oi_run]
  exact wpAny_pure (And.intro rfl ⟨V.ref (s.heap.objs.size + 1), _, I2, rfl, hq⟩)
theorem vg_makeO (M : MkOM X.K X.mg c) (hg : Gl X c) (hdb : (c == ("__debug__" : Str)) = false := by decide) : VG X W (.Call (.Name c p) [] [] pos) (makeO c) := by
  obtain ⟨C, h1, h2, M⟩ := M
  refine ⟨⟨fun pins s σ H Q I ⟨ρ, re, o⟩ => ?_⟩⟩
  refine wpAny_Call_Name_kw (ld_glob I hg h2 ?_ hdb)
  refine PySem.W.callWith_K0 I.kIn M.kp (run_makeO M I fun x dx hx hdx ne => ?_)
  have sA : Same H (upd H dx (.own x)) := new_same hdx
  have hx2 : (upd H dx (.own x)) x = none := by rw [upd_ne fun e => ne e.symm]; exact hx
  have sB : Same H (upd (upd H dx (.own x)) x (.ins C dx [])) := sA.trans (new_same hx2)
  generalize hH2 : upd (upd H dx (.own x)) x (.ins C dx []) = H2 at sB
  have ex : H2 x = some (.ins C dx []) := by rw [← hH2, upd_same]
  have edx : H2 dx = some (.own x) := by rw [← hH2, upd_ne ne, upd_same]
  refine o (.ref x) H2 [x, dx] sB (.obj (A := []) ex edx h1 rfl .nil (fun z => nomatch z) (fun z => nomatch z) ne.symm) fun a m => ?_
  rcases List.mem_cons.mp m with e | m
  · rw [e]; exact hx
  · rw [List.mem_singleton.mp m]; exact hdx
end
end Vs

namespace Vs
open PySem PySem.Spec PyProof.Rows L2
/-! ### defs whose errors have no context: they may be caught by a clause that raises -/
section
variable {X : Cx} {W : WX} {own own' own1 oe : List Nat} {ol : Ol} {pos : Pos} {b : Env → Sr} {tb : List (Str × Bool)}
theorem vs_raiseN {x m : Str} {j : Nat} {p p2 p3 : Pos} (E : ExR X.K X.mg x) (hc : X.calm = true) (tk : L2N.Takes X W) (hg : Gl X x) (hdb : (x == ("__debug__" : Str)) = false := by decide) (we : ∀ i ∈ ol.e, i ∈ own := by first | decide | (dsimp only; decide)) :
    VS X W own own' ol (.Raise (some (.Call (.Name x p) [.Constant (.str m) j p2] [] p3)) none pos) (raiseS x) := by
  obtain ⟨C, B, newId, initId, bm, a, F, e, k, s, t⟩ := E.ex
  exact ⟨psW (L2N.ps_raise hc tk (L2N.pmk_own F e a k (raises_own s t) hg hdb)) fun D σ H ⟨B, ρ, x, pn, q⟩ => by
    obtain ⟨C', h1, h2⟩ := q
    rw [a] at h1
    cases h1
    exact h2 σ H (x.weak we) pn⟩
theorem vg_indexN {o e : Expr} {f h : Env → R D} {apos : Pos} (hc : X.calm = true) (ho : VE X W o f) (he : VE X W e h)
    (hbase : attributeBase o "index" X.env (eval o X.env) = eval o X.env := by rfl)
    (hfew : ((backTo pos (starEach (e :: []) X.env)).all (fun x => !x.1) && (backToKw pos (keywordEach [] X.env)).all (fun x => x.1.isSome)
      && decide ((e :: []).length + ([] : List Keyword).length + (if ([] : List Keyword).isEmpty then 0 else 1) < 30)) = true := by rfl)
    (hline : (apos.endLine == pos.line) = true := by rfl) (hs : starEach (e :: []) X.env = (false, eval e X.env) :: starEach [] X.env := by rfl) (hplain : (backTo pos (starEach [] X.env)).any (·.1) = false := by rfl) :
    VG X W (.Call (.Attribute o "index" apos) [e] [] pos) (m1E indexG f h) :=
  ⟨peW (pe_bmS PySem.F.plainAttrs_str PySem.F.slot_str_index PySem.F.type_str_index (mt_indexX hc (takes0 (X := X))) ho.pe (pa_cons he.pe pa_nil hs) hbase hfew hline hs hplain) fun σ H Q ⟨ρ, re, q⟩ => ⟨ρ, re, (Out.bind q).mono fun d _ q v H1 s1 r1 => by
    cases d with
    | str a =>
      cases r1
      refine ⟨rfl, ρ, re.mono s1, ((Out.bind (show Out X.mg W σ H ((h ρ).bind (indexG a)) _ from q)).up s1).mono fun e _ q w H2 s2 r2 => ?_⟩
      cases e with
      | str b =>
        cases r2
        refine ⟨a, b, rfl, rfl, fun k hk => ?_, fun hn => ?_⟩
        · simp only [indexG, hk] at q
          exact q _ H2 [] (s1.trans s2) (.int _) (fun _ h => nomatch h)
        · simp only [indexG, hn] at q
          exact q.elim
      | _ => exact q.elim
    | _ => exact q.elim⟩⟩
end
def CalN (P : Program) (w : World) (K : PySem.W.Frag) (mg : Str → Option Value) (base : Heap) (x : Str) (ps : List Str) (k : Nat) (m : List D → R D) : Prop :=
  ∃ f fd, mg x = some (.ref f) ∧ PySem.W.keepIn K (.ref f) = true ∧ Binds K fd ps [] ∧ FnOk P w K mg base (L2N.CX P w) k f fd ps (spF K mg ps.length m)
section
variable {P : Program} {w : World} {K : PySem.W.Frag} {mg : Str → Option Value} {base : Heap}
theorem calN_mk {x : Str} {st : Stmt} {N ps : List Str} {k : Nat} {own' : List Nat} {b : Env → Sr} (F : Def K mg x st) (S : FnScope N ps (defScope st)) (hps : ps.length ≤ N.length)
    (hb : ∀ (kV doc pm : Value) (an : Option Addr) (cdv ct : Value) (us : List Value), us.length = ps.length → bindArgs (PySem.W.fnOf x x (defArgs st) (defBody st) (defScope st) .none kV doc pm an cdv ct) ⟨us, []⟩ = pure (ps.zip us))
    (hbody : ∀ (f : Addr) (cdv : Value) (A : Around) (outer : List PySem.Env) (s : Shared) (H : Hp) (E : XK), Room k (A.deeper (envOfC x (defScope st) s.heap.objs.size f cdv)) →
      VSs (cxOf (L2N.CX P w) P w K mg base N x (defScope st) f cdv A outer s H E) (fun cls d _ H => E cls d H) [] own' nol (defBody st) b) :
    CalN P w K mg base x ps (k + 1) (runB N.length b) := by
  obtain ⟨f, fd, F, h⟩ := F
  refine ⟨f, fd, h, F.kp, F.binds hb, ?_⟩
  obtain ⟨oc, od, kV, doc, pm, an, cdv, ct, osl, rfl, lk, hcd⟩ := F.ex
  refine fn_of lk hcd S (fun vs H Q E h => h.1) fun A outer s H vs Q E hr hsp => ?_
  obtain ⟨hl, ds, r, h⟩ := hsp
  refine ⟨_, (hbody f cdv A outer s H E hr).ps, H, _, start_env r (by rw [hl]; exact hps), Pin.nol, ?_⟩
  unfold runB at h
  generalize b (ds.map some ++ List.replicate (N.length - ds.length) none) = q at h
  cases q with
  | st => exact h
  | nx ρ => exact fun σ H' y _ => h .non H' [] y.base .non (fun _ z => nomatch z)
  | rt d => exact h
  | rb d ρ => exact h.elim
  | bk ρ => exact h.elim
  | ct ρ => exact h.elim
  | ex c ρ =>
    obtain ⟨C, h1, h2⟩ := h
    exact ⟨C, h1, fun σ H' y _ => h2 H' y.base⟩
theorem vg_fnN {X : Cx} {W : WX} {x : Str} {ps : List Str} {k k' : Nat} {m : List D → R D} {p pos : Pos} {e : Expr} {es : List Expr} {fs : Env → R (List D)} (C : CalN X.prog X.w X.K X.mg X.base x ps k m) (hr : Room k' X.A) (tk : L2N.Takes X W) (hg : Gl X x)
    (ha : VA X W (e :: es) fs) (hl : LenA fs ps.length) (hk : k ≤ k' := by decide) (hdb : (x == ("__debug__" : Str)) = false := by decide) (he : starEach (e :: es) X.env = (false, eval e X.env) :: starEach es X.env := by rfl) (hpl : (backTo pos (starEach es X.env)).any (·.1) = false := by rfl) :
    VG X W (.Call (.Name x p) (e :: es) [] pos) (callF m fs) := by
  obtain ⟨f, fd, h1, h2, h3, h4⟩ := C
  exact ⟨peW (pe_callS h4 (hr.mono hk) hg h1 h2 h3 (fun σ => L2N.passAt tk σ) ha.pa hdb he hpl) fun σ H Q ⟨ρ, re, o⟩ => ⟨ρ, re, (Out.bind o).mono fun ds hd q vs H1 s1 r1 => by
    refine ⟨r1.length.trans (hl ρ ds hd), ds, r1, ?_⟩
    cases hz : m ds with
    | ok d => rw [hz] at q; exact fun v H' A s2 f2 n2 => q v H' A (s1.trans s2) f2 fun a z => s1.free (n2 a z)
    | ex c => rw [hz] at q; obtain ⟨C, h1, h2⟩ := q; exact ⟨C, h1, fun H' s2 => h2 H' (s1.trans s2)⟩
    | st => rw [hz] at q; exact q.elim⟩⟩
end
/-! ### try: body, except h: raise x("m") -/
def tryRS (tb : List (Str × Bool)) (b : Env → Sr) (x : Str) (ρ : Env) : Sr := match b ρ with
  | .ex c ρ' => (match tb.lookup c with
    | some true => .ex x ρ'
    | some false => .ex c ρ'
    | none => .st)
  | r => r
section
variable {X : Cx} {W : WX} {own own' own1 oe : List Nat} {ol : Ol} {pos : Pos} {b : Env → Sr} {tb : List (Str × Bool)}
theorem vs_tryR {h x m : Str} {j : Nat} {body : List Stmt} {np pos' p p2 p3 rpos : Pos} (E : ExM X.K X.mg h tb) (Ex : ExR X.K X.mg x) (hs : X.stack = X.env :: X.outer) (hf : X.env.frame = some X.env.locals) (hg : Gl X h) (hgx : Gl X x) (hpa : ∀ hd : Option Value, PassesOwnAt (model X.prog X.w) (X.A.mark hd) X.A X.env X.xe) (tk : Takes X W)
    (hb : ∀ (W : WX) (pn : List (Addr × Obj)) (xe : Value → Shared → Prop), L2N.Takes (X.tr pn xe) W → PassesOwn (model X.prog X.w) X.A X.env xe → VSs (X.tr pn xe) W own own1 { ol with e := oe } body b)
    (w1 : ∀ i ∈ own', i ∈ own1 := by decide) (w4 : ∀ j ∈ ol.e, j ∈ oe := by first | decide | (dsimp only; decide)) (hdb : (h == ("__debug__" : Str)) = false := by decide) (hdx : (x == ("__debug__" : Str)) = false := by decide) :
    VS X W own own' ol (.Try body [.ExceptHandler (some (.Name h np)) none [.Raise (some (.Call (.Name x p) [.Constant (.str m) j p2] [] p3)) none rpos] pos'] [] [] pos) (tryRS tb b x) := by
  obtain ⟨Ch, eh, E⟩ := E.ex
  obtain ⟨Cx', B', newId, initId, bm, a', F, e', k, s', t'⟩ := Ex.ex
  refine ⟨psW (L2H.ps_try_onlyX (c := .ref Ch) (Wout := W) (tb := fun W => tS X.K X.mg W own own1 { ol with e := oe } b)
    (ts := fun a cls d => fun D σ H => W (.ref Cx') none σ H) hs hf ⟨hg, hdb, .inl eh⟩ hpa tk
    (fun W pn xe tkN _ po => (hb W pn xe tkN po).ps) (fun a ob cls d pn hz hf tkX hot => pss_one (psW (L2H.ps_raiseH hot tkX (L2N.pmk_own (X := L2H.suiteX X a ((a, ob) :: pn)) F e' a' k (raises_own s' t') hgx hdx)) fun D σ H w => w))) fun D σ H ⟨B, ρ, x, pn, q⟩ => ⟨B, ρ, x, pn, ?_⟩⟩
  unfold tryRS at q
  cases e : b ρ with
  | st => rw [e] at q; exact q.elim
  | nx ρ' => rw [e] at q; exact fun σ H y pz => q σ H (y.weak w1) pz
  | rt d => rw [e] at q; exact q
  | rb d ρ' => rw [e] at q; exact q
  | bk ρ' => rw [e] at q; exact q
  | ct ρ' => rw [e] at q; exact q
  | ex c ρ' =>
    rw [e] at q
    simp only at q
    cases et : tb.lookup c with
    | none => rw [et] at q; exact q.elim
    | some k =>
      rw [et] at q
      cases k with
      | false =>
        obtain ⟨C, hC, q⟩ := q
        obtain ⟨C2, h2, e2⟩ := E c false et
        rw [hC] at h2
        cases h2
        exact ⟨C, hC, fun σ' H' y pz => ⟨false, e2, (fun z => nomatch z), fun _ => q σ' H' (y.weak w4) pz⟩⟩
      | true =>
        obtain ⟨C, hC, eC⟩ := E c true et
        obtain ⟨Cq, hq, q⟩ := q
        rw [a'] at hq
        cases hq
        exact ⟨C, hC, fun σ' H' y pz => ⟨true, eC, fun _ a ha => q σ' H' (y.weak w4) pz, (fun z => nomatch z)⟩⟩
end
end Vs

namespace Vs
open PySem PySem.Spec PyProof.Rows L2

/-! ### reckoning with meanings -/
theorem seqS_eq (a b : Env → Sr) (ρ : Env) : seqS a b ρ = (a ρ).seq b := by
  unfold seqS Sr.seq
  cases a ρ <;> rfl
theorem seq_nx (ρ : Env) (b : Env → Sr) : (Sr.nx ρ).seq b = b ρ := rfl
theorem seq_rt (d : D) (b : Env → Sr) : (Sr.rt d).seq b = .rt d := rfl
theorem seq_st (b : Env → Sr) : (Sr.st).seq b = .st := rfl
theorem seq_bk (ρ : Env) (b : Env → Sr) : (Sr.bk ρ).seq b = .bk ρ := rfl
theorem seq_ct (ρ : Env) (b : Env → Sr) : (Sr.ct ρ).seq b = .ct ρ := rfl
theorem seq_ex (c : Str) (ρ : Env) (b : Env → Sr) : (Sr.ex c ρ).seq b = .ex c ρ := rfl
theorem seq_ite (p : Prop) [Decidable p] (x y : Sr) (b : Env → Sr) : (if p then x else y).seq b = if p then x.seq b else y.seq b := by split <;> rfl
theorem body_nx (ρ : Env) : bodyR (.nx ρ) = .ok .non := rfl
theorem body_rt (d : D) : bodyR (.rt d) = .ok d := rfl
theorem body_ex (c : Str) (ρ : Env) : bodyR (.ex c ρ) = .ex c := rfl
theorem body_ite (p : Prop) [Decidable p] (x y : Sr) : bodyR (if p then x else y) = if p then bodyR x else bodyR y := by split <;> rfl
theorem bind_ite {α β : Type} (p : Prop) [Decidable p] (x y : R α) (f : α → R β) : (if p then x else y).bind f = if p then x.bind f else y.bind f := by split <;> rfl
theorem bindS_ite {α : Type} (p : Prop) [Decidable p] (x y : R α) (ρ : Env) (k : α → Sr) : bindS (if p then x else y) ρ k = if p then bindS x ρ k else bindS y ρ k := by split <;> rfl
theorem var0 (d : D) (ρ : Env) : varE 0 (some d :: ρ) = .ok d := rfl
theorem varS (i : Nat) (x : Option D) (ρ : Env) : varE (i + 1) (x :: ρ) = varE i ρ := rfl
theorem immD_int (i : Int) : immD (.int i) = true := by rw [immD]
theorem immD_bl (i : Bool) : immD (.bl i) = true := by rw [immD]
theorem immD_str (i : Str) : immD (.str i) = true := by rw [immD]
theorem immD_non : immD .non = true := by rw [immD]
theorem immD_tup (xs : List D) : immD (.tup xs) = immDs xs := by rw [immD]
theorem immD_lst (xs : List D) : immD (.lst xs) = false := by rw [immD]
theorem immDs_nil : immDs [] = true := by rw [immDs]
theorem immDs_cons (x : D) (xs : List D) : immDs (x :: xs) = (immD x && immDs xs) := by rw [immDs]
theorem immDs_ints : ∀ ns : List Int, immDs (ns.map D.int) = true
  | [] => by rw [List.map_nil, immDs]
  | n :: ns => by rw [List.map_cons, immDs, immD, immDs_ints ns]; rfl
theorem retV0 (d : D) (ρ : Env) : retV 0 (some d :: ρ) = .rt d := rfl
theorem retVS (i : Nat) (x : Option D) (ρ : Env) : retV (i + 1) (x :: ρ) = retV i ρ := rfl

/-! equality -/
theorem eqB_int (i j : Int) : eqB (.int i) (.int j) = decide (i = j) := by
  unfold eqB
  rw [pyD, pyD, PyData.eqv]
  first
    | rfl
    | (by_cases h : i = j <;> simp [h])
theorem shaped_int (i : Int) : SeqAt.shaped (pyD (.int i)) = true := by rw [pyD]; rfl
theorem eqD_int (i j : Int) : eqD (.int i) (.int j) = .ok (.bl (decide (i = j))) := by
  unfold eqD
  rw [if_pos ⟨shaped_int i, shaped_int j⟩, eqB_int]
theorem neD_int (i j : Int) : neD (.int i) (.int j) = .ok (.bl (!decide (i = j))) := by
  unfold neD
  rw [if_pos ⟨shaped_int i, shaped_int j⟩, eqB_int]

/-! lists by place -/
theorem atI_lt {α : Type} {xs : List α} {i : Int} (h0 : 0 ≤ i) (h : i < xs.length) : atI xs i = xs[i.toNat]? := by
  unfold atI ixN
  rw [if_pos h0, if_pos h]
  rfl
theorem ixD_lst {xs : List D} {i : Int} {d : D} (h0 : 0 ≤ i) (h : xs[i.toNat]? = some d) : ixD (.lst xs) (.int i) = .ok d := by
  have hl : i < xs.length := by
    have := (List.getElem?_eq_some_iff.mp h).1
    omega
  unfold ixD
  simp only
  rw [atI_lt h0 hl, h]
theorem ixD_tup {xs : List D} {i : Int} {d : D} (h0 : 0 ≤ i) (h : xs[i.toNat]? = some d) : ixD (.tup xs) (.int i) = .ok d := by
  have hl : i < xs.length := by
    have := (List.getElem?_eq_some_iff.mp h).1
    omega
  unfold ixD
  simp only
  rw [atI_lt h0 hl, h]
/-- the small sizes of products -/
theorem mulOk_of {i j : Int} {a b : Nat} (ha : i.natAbs < 2 ^ a) (hb : j.natAbs < 2 ^ b) (h : a + b ≤ 134000000 := by decide) : mulOk i j := by
  have x : ∀ {n k : Nat}, n < 2 ^ k → n.log2 ≤ k := fun {n k} h => by
    by_cases e : n = 0
    · subst e; rw [Nat.log2_zero]; exact Nat.zero_le _
    · exact Nat.le_of_lt ((Nat.log2_lt e).mpr h)
  have x1 := x ha
  have x2 := x hb
  unfold mulOk
  omega
theorem bits_lt {z : Int} {n : Nat} (h : Builtin.Int.intBits z ≤ n) : z.natAbs < 2 ^ n := by
  unfold Builtin.Int.intBits at h
  by_cases e : z.natAbs = 0
  · rw [e]; exact Nat.two_pow_pos n
  · split at h
    · rename_i h0
      simp at h0
      omega
    · exact (Nat.log2_lt e).mp (by omega)
theorem isT_int_non  : isT "int" (.non) = .ok (.bl false) := by simp [isT, clsD]
theorem isT_int_bl (b : Bool) : isT "int" (.bl b) = .ok (.bl true) := by simp [isT, clsD]
theorem isT_int_int (i : Int) : isT "int" (.int i) = .ok (.bl true) := by simp [isT, clsD]
theorem isT_int_str (x : Str) : isT "int" (.str x) = .ok (.bl false) := by simp [isT, clsD]
theorem isT_int_lst (xs : List D) : isT "int" (.lst xs) = .ok (.bl false) := by simp [isT, clsD]
theorem isT_int_tup (xs : List D) : isT "int" (.tup xs) = .ok (.bl false) := by simp [isT, clsD]
theorem isT_bool_non  : isT "bool" (.non) = .ok (.bl false) := by simp [isT, clsD]
theorem isT_bool_bl (b : Bool) : isT "bool" (.bl b) = .ok (.bl true) := by simp [isT, clsD]
theorem isT_bool_int (i : Int) : isT "bool" (.int i) = .ok (.bl false) := by simp [isT, clsD]
theorem isT_bool_str (x : Str) : isT "bool" (.str x) = .ok (.bl false) := by simp [isT, clsD]
theorem isT_bool_lst (xs : List D) : isT "bool" (.lst xs) = .ok (.bl false) := by simp [isT, clsD]
theorem isT_bool_tup (xs : List D) : isT "bool" (.tup xs) = .ok (.bl false) := by simp [isT, clsD]
theorem isT_str_non  : isT "str" (.non) = .ok (.bl false) := by simp [isT, clsD]
theorem isT_str_bl (b : Bool) : isT "str" (.bl b) = .ok (.bl false) := by simp [isT, clsD]
theorem isT_str_int (i : Int) : isT "str" (.int i) = .ok (.bl false) := by simp [isT, clsD]
theorem isT_str_str (x : Str) : isT "str" (.str x) = .ok (.bl true) := by simp [isT, clsD]
theorem isT_str_lst (xs : List D) : isT "str" (.lst xs) = .ok (.bl false) := by simp [isT, clsD]
theorem isT_str_tup (xs : List D) : isT "str" (.tup xs) = .ok (.bl false) := by simp [isT, clsD]
theorem isT_list_non  : isT "list" (.non) = .ok (.bl false) := by simp [isT, clsD]
theorem isT_list_bl (b : Bool) : isT "list" (.bl b) = .ok (.bl false) := by simp [isT, clsD]
theorem isT_list_int (i : Int) : isT "list" (.int i) = .ok (.bl false) := by simp [isT, clsD]
theorem isT_list_str (x : Str) : isT "list" (.str x) = .ok (.bl false) := by simp [isT, clsD]
theorem isT_list_lst (xs : List D) : isT "list" (.lst xs) = .ok (.bl true) := by simp [isT, clsD]
theorem isT_list_tup (xs : List D) : isT "list" (.tup xs) = .ok (.bl false) := by simp [isT, clsD]
theorem isT_tuple_non  : isT "tuple" (.non) = .ok (.bl false) := by simp [isT, clsD]
theorem isT_tuple_bl (b : Bool) : isT "tuple" (.bl b) = .ok (.bl false) := by simp [isT, clsD]
theorem isT_tuple_int (i : Int) : isT "tuple" (.int i) = .ok (.bl false) := by simp [isT, clsD]
theorem isT_tuple_str (x : Str) : isT "tuple" (.str x) = .ok (.bl false) := by simp [isT, clsD]
theorem isT_tuple_lst (xs : List D) : isT "tuple" (.lst xs) = .ok (.bl false) := by simp [isT, clsD]
theorem isT_tuple_tup (xs : List D) : isT "tuple" (.tup xs) = .ok (.bl true) := by simp [isT, clsD]

theorem modD_pos {i j : Int} (h : 0 < j) : modD (.int i) (.int j) = .ok (.int (i % j)) := by unfold modD; simp only; rw [if_pos h]
theorem fdivD_big {i j : Int} (h : 0 < j) (h2 : j.natAbs < 2 ^ 9000) : fdivD (.int i) (.int j) = .ok (.int (i / j)) := by
  unfold fdivD
  simp only
  rw [if_pos ⟨h, by
    have e : j.natAbs ≠ 0 := by omega
    exact (Nat.log2_lt e).mpr h2⟩]
theorem e64 : (2 : Nat) ^ 64 = 18446744073709551616 := by decide
theorem lt9000 {n : Nat} (h : n < 2 ^ 64) : n < 2 ^ 9000 := Nat.lt_trans h (Nat.pow_lt_pow_right (by decide) (by decide))
theorem fdivD_pos {i j : Int} (h : 0 < j) (h2 : j < 18446744073709551616) : fdivD (.int i) (.int j) = .ok (.int (i / j)) := fdivD_big h (lt9000 (by rw [e64]; omega))
theorem powD_ok {i j : Int} (h : 0 ≤ j) (h2 : j ≤ 1000000) (h3 : -18446744073709551616 < i) (h4 : i < 18446744073709551616) : powD (.int i) (.int j) = .ok (.int (i ^ j.toNat)) := by
  unfold powD; simp only; rw [if_pos ⟨h, bits_mul_le (by rw [e64]; omega) h h2⟩]
theorem powD_big {i j : Int} {n : Nat} (h : 0 ≤ j) (h2 : i.natAbs < 2 ^ n) (h3 : (n : Int) * j ≤ 134217728) : powD (.int i) (.int j) = .ok (.int (i ^ j.toNat)) := by
  have hb : Builtin.Int.intBits i ≤ n := intBits_le_iff.mpr h2
  have h4 : (Builtin.Int.intBits i : Int) * j ≤ (n : Int) * j := Int.mul_le_mul_of_nonneg_right (by omega) h
  have h5 : (2 : Int) ^ 27 = 134217728 := by decide
  unfold powD; simp only; rw [if_pos ⟨h, by omega⟩]
theorem shlD_ok {i j : Int} (h : 0 ≤ j) (h2 : j ≤ 1000000) (h3 : -18446744073709551616 < i) (h4 : i < 18446744073709551616) : shlD (.int i) (.int j) = .ok (.int (i * 2 ^ j.toNat)) := by
  unfold shlD; simp only; rw [if_pos ⟨h, bits_add_le (by rw [e64]; omega) h2⟩]
theorem shrD_ok {i j : Int} (h : 0 ≤ j) : shrD (.int i) (.int j) = .ok (.int (i / 2 ^ j.toNat)) := by unfold shrD; simp only; rw [if_pos h]
theorem mulD_ok {i j : Int} (h : mulOk i j) : mulD (.int i) (.int j) = .ok (.int (i * j)) := by unfold mulD; simp only; rw [if_pos h]
/-- of at most n bits -/
structure Bits (n : Nat) (z : Int) : Prop where
  lt : z.natAbs < 2 ^ n
theorem Bits.mono {n m : Nat} {z : Int} (h : Bits n z) (k : n ≤ m) : Bits m z := ⟨Nat.lt_of_lt_of_le h.lt (Nat.pow_le_pow_right (by decide) k)⟩
theorem Bits.of64 {z : Int} (h3 : -18446744073709551616 < z) (h4 : z < 18446744073709551616) : Bits 64 z := ⟨by rw [e64]; omega⟩
theorem Bits.mul {n m : Nat} {y z : Int} (h : Bits n y) (k : Bits m z) : Bits (n + m) (y * z) := ⟨by
  rw [Int.natAbs_mul, Nat.pow_add]
  exact Nat.mul_lt_mul'' h.lt k.lt⟩
theorem Bits.add {n : Nat} {y z : Int} (h : Bits n y) (k : Bits n z) : Bits (n + 1) (y + z) := ⟨by
  have h1 := h.lt
  have h2 := k.lt
  rw [Nat.pow_succ]
  omega⟩
theorem Bits.sub {n : Nat} {y z : Int} (h : Bits n y) (k : Bits n z) : Bits (n + 1) (y - z) := ⟨by
  have h1 := h.lt
  have h2 := k.lt
  rw [Nat.pow_succ]
  omega⟩
theorem Bits.neg {n : Nat} {z : Int} (h : Bits n z) : Bits n (-z) := ⟨by rw [Int.natAbs_neg]; exact h.lt⟩
theorem Bits.le {n : Nat} {y z : Int} (h : Bits n z) (k : y.natAbs ≤ z.natAbs) : Bits n y := ⟨Nat.lt_of_le_of_lt k h.lt⟩
theorem Bits.pow2 (k : Nat) : Bits (k + 1) (2 ^ k) := ⟨by
  rw [Int.natAbs_pow]
  exact Nat.pow_lt_pow_right (by decide) (Nat.lt_succ_self _)⟩
theorem Bits.of_int {z : Int} {n : Nat} (h : Builtin.Int.intBits z ≤ n) : Bits n z := ⟨bits_lt h⟩
theorem Bits.ok {n m : Nat} {y z : Int} (h : Bits n y) (k : Bits m z) (l : n + m ≤ 134000000 := by decide) : mulOk y z := mulOk_of h.lt k.lt l

/-! range with a step -/
theorem rangeSize_bd {i j c : Int} (hc : 0 < c) : 0 ≤ Builtin.Range.rangeSize i j c ∧ (Builtin.Range.rangeSize i j c = 0 ∨ Builtin.Range.rangeSize i j c ≤ j - i) := by
  unfold Builtin.Range.rangeSize
  rw [if_pos hc]
  split
  · have h1 := Int.ediv_nonneg (a := j - i - 1) (b := c) (by omega) (by omega)
    have h2 : (j - i - 1) / c ≤ j - i - 1 := Int.ediv_le_self _ (by omega)
    omega
  · omega
theorem okRange_pos {i j c : Int} (bi : bnd i) (bj : bnd j) (hc : 0 < c) (hc2 : c < 1073741824) : okRange i j c := by
  obtain ⟨h1, h2⟩ := rangeSize_bd (i := i) (j := j) hc
  obtain ⟨b1, b2⟩ := bi
  obtain ⟨b3, b4⟩ := bj
  refine ⟨by omega, by omega, ?_⟩
  have e62 : (2 : Int) ^ 62 = 4611686018427387904 := by decide
  have e63 : (2 : Int) ^ 63 = 9223372036854775808 := by decide
  rw [e62] at b1 b2 b3 b4
  unfold Builtin.Range.small Builtin.Range.rangeFitsLong
  simp only [Bool.and_eq_true, Bool.or_eq_true, decide_eq_true_eq, beq_iff_eq, e63, gt_iff_lt, if_pos hc]
  omega
theorem rngS_pos {i j c : Int} (bi : bnd i) (bj : bnd j) (hc : 0 < c) (hc2 : c < 1073741824) : rngS [.int i, .int j, .int c] = .ok (rngC i c (Builtin.Range.rangeSize i j c).toNat) := by
  unfold rngS
  simp only
  rw [if_pos (okRange_pos bi bj hc hc2)]
theorem rng1_ok {j : Int} (bj : bnd j) : rng1 [.int j] = .ok (rngL 0 j.toNat) := by unfold rng1; simp only; rw [if_pos bj]
theorem rng2_ok {i j : Int} (bi : bnd i) (bj : bnd j) : rng2 [.int i, .int j] = .ok (rngL i (j - i).toNat) := by unfold rng2; simp only; rw [if_pos ⟨bi, bj⟩]
theorem bnd_of {j : Int} (h : -4611686018427387904 ≤ j) (h2 : j < 4611686018427387904) : bnd j := by
  have e62 : (2 : Int) ^ 62 = 4611686018427387904 := by decide
  unfold bnd
  rw [e62]
  omega

/-! loops and comprehensions -/
/-- a loop whose turns all go on: an invariant by the turn -/
theorem forL_nx {tf : D → Env → Option Env} {b : Env → Sr} (I : Nat → Env → Prop) : ∀ {ds : List D} {ρ : Env} (n : Nat), I n ρ →
    (∀ i d ρ, ds[i]? = some d → I (n + i) ρ → ∃ ρ1 ρ2, tf d ρ = some ρ1 ∧ (b ρ1 = .nx ρ2 ∨ b ρ1 = .ct ρ2) ∧ I (n + i + 1) ρ2) → ∃ ρ', forL tf b ds ρ = .nx ρ' ∧ I (n + ds.length) ρ'
  | [], ρ, n, h, _ => ⟨ρ, rfl, h⟩
  | d :: ds, ρ, n, h, k => by
    obtain ⟨ρ1, ρ2, h1, h2, h3⟩ := k 0 d ρ rfl h
    obtain ⟨ρ', q1, q2⟩ := forL_nx I (ds := ds) (ρ := ρ2) (n + 1) h3 fun i d ρ hd hi => by
      have := k (i + 1) d ρ (by simpa using hd) (by rw [← Nat.add_assoc, Nat.add_right_comm]; exact hi)
      rw [← Nat.add_assoc, Nat.add_right_comm n i 1] at this
      exact this
    refine ⟨ρ', ?_, by rw [List.length_cons, Nat.add_comm ds.length 1, ← Nat.add_assoc]; exact q2⟩
    unfold forL
    rw [h1]
    simp only
    rcases h2 with e | e <;> rw [e] <;> exact q1
theorem forL_i {tf : D → Env → Option Env} {b : Env → Sr} (I : Nat → Env → Prop) {ds : List D} {ρ : Env} (h : I 0 ρ)
    (k : ∀ i d ρ, ds[i]? = some d → I i ρ → ∃ ρ1 ρ2, tf d ρ = some ρ1 ∧ (b ρ1 = .nx ρ2 ∨ b ρ1 = .ct ρ2) ∧ I (i + 1) ρ2) : ∃ ρ', forL tf b ds ρ = .nx ρ' ∧ I ds.length ρ' := by
  obtain ⟨ρ', h1, h2⟩ := forL_nx I 0 h fun i d ρ hd hi => by
    rw [Nat.zero_add] at hi ⊢
    exact k i d ρ hd hi
  exact ⟨ρ', h1, by rw [Nat.zero_add] at h2; exact h2⟩
/-- a turn that goes on, to where I holds -/
def Go (I : Env → Prop) : Sr → Prop
  | .nx ρ => I ρ
  | .ct ρ => I ρ
  | _ => False
theorem Go_nx {I : Env → Prop} {ρ : Env} : Go I (.nx ρ) = I ρ := rfl
theorem Go_ct {I : Env → Prop} {ρ : Env} : Go I (.ct ρ) = I ρ := rfl
theorem body_for {tf : D → Env → Option Env} {b q : Env → Sr} {ds : List D} {ρ : Env} {x : R D} (I : Env → Prop) (h : I ρ)
    (k : ∀ d ∈ ds, ∀ ρ, I ρ → ∃ ρ1, tf d ρ = some ρ1 ∧ Go I (b ρ1)) (fin : ∀ ρ, I ρ → bodyR (q ρ) = x) : bodyR ((forL tf b ds ρ).seq q) = x := by
  obtain ⟨ρ', h1, h2⟩ := forL_i (tf := tf) (b := b) (ds := ds) (fun _ => I) h fun i d ρ hd hi => by
    obtain ⟨ρ1, e1, e2⟩ := k d (List.mem_of_getElem? hd) ρ hi
    cases hb : b ρ1 with
    | nx ρ2 => rw [hb] at e2; exact ⟨ρ1, ρ2, e1, .inl hb, e2⟩
    | ct ρ2 => rw [hb] at e2; exact ⟨ρ1, ρ2, e1, .inr hb, e2⟩
    | st => rw [hb] at e2; exact e2.elim
    | rt d => rw [hb] at e2; exact e2.elim
    | rb d ρ2 => rw [hb] at e2; exact e2.elim
    | bk ρ2 => rw [hb] at e2; exact e2.elim
    | ex c => rw [hb] at e2; exact e2.elim
  rw [h1]
  exact fin ρ' h2
/-- a loop by a state of one's own: enc tells the slots -/
theorem forL_enc {α : Type} {tf : D → Env → Option Env} {b : Env → Sr} (enc : α → Env → Prop) (step : α → D → α) : ∀ {ds : List D} {ρ : Env} {a : α}, enc a ρ →
    (∀ d ∈ ds, ∀ a ρ, enc a ρ → ∃ ρ1 ρ2, tf d ρ = some ρ1 ∧ (b ρ1 = .nx ρ2 ∨ b ρ1 = .ct ρ2) ∧ enc (step a d) ρ2) → ∃ ρ', forL tf b ds ρ = .nx ρ' ∧ enc (ds.foldl step a) ρ'
  | [], ρ, a, h, _ => ⟨ρ, rfl, h⟩
  | d :: ds, ρ, a, h, k => by
    obtain ⟨ρ1, ρ2, h1, h2, h3⟩ := k d List.mem_cons_self a ρ h
    obtain ⟨ρ', q1, q2⟩ := forL_enc enc step (ds := ds) h3 fun d hd => k d (List.mem_cons_of_mem _ hd)
    refine ⟨ρ', ?_, q2⟩
    unfold forL
    rw [h1]
    simp only
    rcases h2 with e | e <;> rw [e] <;> exact q1
theorem rngC_mem {lo c : Int} {n : Nat} {d : D} (h : d ∈ rngC lo c n) : ∃ i : Nat, i < n ∧ d = .int (lo + (i : Int) * c) := by
  obtain ⟨i, h1, h2⟩ := List.mem_map.mp h
  exact ⟨i, List.mem_range.mp h1, h2.symm⟩
theorem rngL_mem {lo : Int} {n : Nat} {d : D} (h : d ∈ rngL lo n) : ∃ i : Nat, i < n ∧ d = .int (lo + (i : Int)) := by
  obtain ⟨i, h1, h2⟩ := List.mem_map.mp h
  exact ⟨i, List.mem_range.mp h1, h2.symm⟩
/-- a comprehension without a test -/
theorem lcL_map {vs : List Nat} {tf : D → Env → Option Env} {f : Env → R D} {ρ : Env} (g : D → D) : ∀ {ds : List D}, (∀ d ∈ ds, ∃ ρ1, tf d (wipeD ρ vs) = some ρ1 ∧ f ρ1 = .ok (g d)) → lcL vs tf yesT f ρ ds = .ok (ds.map g)
  | [], _ => rfl
  | d :: ds, k => by
    obtain ⟨ρ1, h1, h2⟩ := k d List.mem_cons_self
    have ih := lcL_map g (ds := ds) fun d hd => k d (List.mem_cons_of_mem _ hd)
    unfold lcL
    rw [h1]
    simp only [yesT, nox, R.bind_ok, if_true, h2, ih, List.map_cons]
theorem lcE_map {vs : List Nat} {fi : Env → R (List D)} {tf : D → Env → Option Env} {f : Env → R D} {ρ : Env} {ds : List D} (g : D → D) (hi : fi ρ = .ok ds) (hl : ds.length ≤ sizeLine) (h : ∀ d ∈ ds, ∃ ρ1, tf d (wipeD ρ vs) = some ρ1 ∧ f ρ1 = .ok (g d)) :
    lcE vs fi tf yesT f ρ = .ok (.lst (ds.map g)) := by
  unfold lcE
  rw [hi, R.bind_ok, if_pos hl, lcL_map g h, R.bind_ok]
theorem le_line1000 {n : Nat} (h : n ≤ 16000000) : n ≤ sizeLine := by rw [sizeLine_eq]; omega
theorem rngC_length (lo c : Int) (n : Nat) : (rngC lo c n).length = n := by simp [rngC]
theorem rngL_length (lo : Int) (n : Nat) : (rngL lo n).length = n := by simp [rngL]
theorem intsO_map : ∀ ns : List Int, intsO (ns.map D.int) = some ns
  | [] => rfl
  | n :: ns => by rw [List.map_cons, intsO, intsO_map ns]; rfl
theorem atI_int {ns : List Int} {k : Int} (h0 : 0 ≤ k) (h : k < ns.length) : atI (ns.map D.int) k = some (.int (ns.getD k.toNat 0)) := by
  rw [atI_lt h0 (by rw [List.length_map]; exact h), List.getElem?_map]
  have hk : k.toNat < ns.length := by omega
  rw [List.getElem?_eq_getElem hk, List.getD_eq_getElem?_getD, List.getElem?_eq_getElem hk]
  rfl
theorem ixD_ints {ns : List Int} {k : Int} (h0 : 0 ≤ k) (h : k < ns.length) : ixD (.lst (ns.map D.int)) (.int k) = .ok (.int (ns.getD k.toNat 0)) := by
  unfold ixD
  simp only
  rw [atI_int h0 h]
/-! places of a written row -/
theorem ix0_lst (a : D) (l : List D) : ixD (.lst (a :: l)) (.int 0) = .ok a := ixD_lst (by decide) rfl
theorem ix0_tup (a : D) (l : List D) : ixD (.tup (a :: l)) (.int 0) = .ok a := ixD_tup (by decide) rfl
theorem ix1_lst (a b : D) (l : List D) : ixD (.lst (a :: b :: l)) (.int 1) = .ok b := ixD_lst (by decide) rfl
theorem ix1_tup (a b : D) (l : List D) : ixD (.tup (a :: b :: l)) (.int 1) = .ok b := ixD_tup (by decide) rfl
theorem ix2_lst (a b c : D) (l : List D) : ixD (.lst (a :: b :: c :: l)) (.int 2) = .ok c := ixD_lst (by decide) rfl
theorem ix2_tup (a b c : D) (l : List D) : ixD (.tup (a :: b :: c :: l)) (.int 2) = .ok c := ixD_tup (by decide) rfl
theorem ix3_lst (a b c d : D) (l : List D) : ixD (.lst (a :: b :: c :: d :: l)) (.int 3) = .ok d := ixD_lst (by decide) rfl
theorem ix3_tup (a b c d : D) (l : List D) : ixD (.tup (a :: b :: c :: d :: l)) (.int 3) = .ok d := ixD_tup (by decide) rfl
theorem ix4_lst (a b c d e : D) (l : List D) : ixD (.lst (a :: b :: c :: d :: e :: l)) (.int 4) = .ok e := ixD_lst (by decide) rfl
theorem ix4_tup (a b c d e : D) (l : List D) : ixD (.tup (a :: b :: c :: d :: e :: l)) (.int 4) = .ok e := ixD_tup (by decide) rfl
theorem ix5_lst (a b c d e f : D) (l : List D) : ixD (.lst (a :: b :: c :: d :: e :: f :: l)) (.int 5) = .ok f := ixD_lst (by decide) rfl
theorem ix5_tup (a b c d e f : D) (l : List D) : ixD (.tup (a :: b :: c :: d :: e :: f :: l)) (.int 5) = .ok f := ixD_tup (by decide) rfl
/-! equality of like data -/
inductive Fl : Nat → D → Prop where
  | non {n : Nat} : Fl n .non
  | bl {n : Nat} (b : Bool) : Fl n (.bl b)
  | int {n : Nat} (i : Int) : Fl n (.int i)
  | str {n : Nat} (x : Str) (h : PyData.strOk x = true) : Fl n (.str x)
  | lst {n : Nat} {xs : List D} (h : ∀ x ∈ xs, Fl n x) : Fl (n + 1) (.lst xs)
  | tup {n : Nat} {xs : List D} (h : ∀ x ∈ xs, Fl n x) : Fl (n + 1) (.tup xs)
def FlP (n : Nat) (p : PyData) : Prop := p.canLay0 = true ∧ p.depth ≤ n ∧ PyData.eqv p p = true
theorem flPs {n : Nat} : ∀ {xs : List D}, (∀ x ∈ xs, FlP n (pyD x)) → PyData.canLayAll0 (pyDs xs) = true ∧ PyData.depthAll (pyDs xs) ≤ n ∧ PyData.eqvAll (pyDs xs) (pyDs xs) = true
  | [], _ => ⟨by simp only [pyDs, PyData.canLayAll0], by simp only [pyDs, PyData.depthAll]; omega, by simp only [pyDs, PyData.eqvAll]⟩
  | x :: xs, h => by
    obtain ⟨a1, a2, a3⟩ := h x List.mem_cons_self
    obtain ⟨b1, b2, b3⟩ := flPs (xs := xs) fun y hy => h y (List.mem_cons_of_mem _ hy)
    refine ⟨?_, ?_, ?_⟩
    · simp only [pyDs, PyData.canLayAll0, a1, b1, Bool.and_self]
    · simp only [pyDs, PyData.depthAll]; omega
    · simp only [pyDs, PyData.eqvAll, a3, b3, Bool.and_self]
theorem Fl.p {n : Nat} {d : D} (h : Fl n d) : FlP n (pyD d) := by
  induction h with
  | non => exact ⟨by simp only [pyD, PyData.canLay0], by simp only [pyD, PyData.depth]; omega, by simp only [pyD, PyData.eqv]⟩
  | bl b => exact ⟨by simp only [pyD, PyData.canLay0], by simp only [pyD, PyData.depth]; omega, by simp only [pyD, PyData.eqv]; exact beq_self_eq_true b⟩
  | int i => exact ⟨by simp only [pyD, PyData.canLay0], by simp only [pyD, PyData.depth]; omega, by simp only [pyD, PyData.eqv]; exact beq_self_eq_true i⟩
  | str x h => exact ⟨by simp only [pyD, PyData.canLay0]; exact h, by simp only [pyD, PyData.depth]; omega, by simp only [pyD, PyData.eqv]; first | exact beq_self_eq_true x | simp⟩
  | lst _ ih =>
    obtain ⟨b1, b2, b3⟩ := flPs ih
    exact ⟨by simp only [pyD, PyData.canLay0]; exact b1, by simp only [pyD, PyData.depth]; omega, by simp only [pyD, PyData.eqv]; exact b3⟩
  | tup _ ih =>
    obtain ⟨b1, b2, b3⟩ := flPs ih
    exact ⟨by simp only [pyD, PyData.canLay0]; exact b1, by simp only [pyD, PyData.depth]; omega, by simp only [pyD, PyData.eqv]; exact b3⟩
theorem Fl.shaped {n : Nat} {d : D} (h : Fl n d) (hn : n ≤ 64) : SeqAt.shaped (pyD d) = true := by
  obtain ⟨a1, a2, _⟩ := h.p
  show ((pyD d).canLay0 && decide ((pyD d).depth ≤ 64)) = true
  rw [a1, decide_eq_true (Nat.le_trans a2 hn)]
  rfl
theorem eqD_self {d : D} {n : Nat} (h : Fl n d) (hn : n ≤ 64) : eqD d d = .ok (.bl true) := by
  unfold eqD
  rw [if_pos ⟨h.shaped hn, h.shaped hn⟩, show eqB d d = true from h.p.2.2]
theorem neD_self {d : D} {n : Nat} (h : Fl n d) (hn : n ≤ 64) : neD d d = .ok (.bl false) := by
  unfold neD
  rw [if_pos ⟨h.shaped hn, h.shaped hn⟩, show eqB d d = true from h.p.2.2]
  rfl
theorem fl_ints {n : Nat} (ns : List Int) : ∀ x ∈ ns.map D.int, Fl n x := fun x hx => by
  obtain ⟨i, _, h⟩ := List.mem_map.mp hx
  subst h
  exact .int i
theorem fl_pair {n : Nat} (a b : Int) : Fl (n + 1) (.tup [.int a, .int b]) := .tup (fl_ints [a, b])
theorem eqD_pair (a b : Int) : eqD (.tup [.int a, .int b]) (.tup [.int a, .int b]) = .ok (.bl true) := eqD_self (n := 1) (fl_pair a b) (by decide)
theorem neD_pair (a b : Int) : neD (.tup [.int a, .int b]) (.tup [.int a, .int b]) = .ok (.bl false) := neD_self (n := 1) (fl_pair a b) (by decide)
theorem addD_int (i j : Int) : addD (.int i) (.int j) = .ok (.int (i + j)) := rfl
theorem subD_int (i j : Int) : subD (.int i) (.int j) = .ok (.int (i - j)) := rfl
theorem ltD_int (i j : Int) : ltD (.int i) (.int j) = .ok (.bl (decide (i < j))) := rfl
theorem leD_int (i j : Int) : leD (.int i) (.int j) = .ok (.bl (decide (i ≤ j))) := rfl
theorem gtD_int (i j : Int) : gtD (.int i) (.int j) = .ok (.bl (decide (j < i))) := rfl
theorem geD_int (i j : Int) : geD (.int i) (.int j) = .ok (.bl (decide (j ≤ i))) := rfl
theorem negD_int (i : Int) : negD (.int i) = .ok (.int (-i)) := rfl
theorem lenD_lst (xs : List D) : lenD [.lst xs] = .ok (.int xs.length) := rfl
theorem lenD_tup (xs : List D) : lenD [.tup xs] = .ok (.int xs.length) := rfl
theorem absD_int (i : Int) : absD [.int i] = .ok (.int (if i < 0 then -i else i)) := rfl
theorem len_2 (a b : D) : (([a, b] : List D).length : Int) = 2 := rfl
theorem len_1 (a : D) : (([a] : List D).length : Int) = 1 := rfl
theorem len_3 (a b c : D) : (([a, b, c] : List D).length : Int) = 3 := rfl
theorem len_0 : ((([] : List D)).length : Int) = 0 := rfl
def chK (k : D → R D) (r : R D) : D → R D
  | .bl true => r.bind k
  | .bl false => .ok (.bl false)
  | _ => .st
theorem chD_eq (gd gd' : D → D → R D) (f g h : Env → R D) (ρ : Env) : chD gd gd' f g h ρ = (f ρ).bind fun x => (g ρ).bind fun y => (gd x y).bind (chK (gd' y) (h ρ)) := by
  unfold chD
  have e : ∀ y, (fun z : D => match z with | .bl true => (h ρ).bind fun w => gd' y w | .bl false => .ok (.bl false) | _ => .st) = chK (gd' y) (h ρ) := fun y => by
    funext z
    unfold chK
    rfl
  rfl
theorem chK_bl (k : D → R D) (r : R D) (p : Bool) : chK k r (.bl p) = if p = true then r.bind k else .ok (.bl false) := by cases p <;> rfl
theorem ite_bl (P : Prop) [Decidable P] (q : Bool) : (if P then R.ok (D.bl q) else R.ok (D.bl false)) = R.ok (D.bl (decide P && q)) := by
  by_cases h : P
  · rw [if_pos h, decide_eq_true h]; rfl
  · rw [if_neg h, decide_eq_false h]; rfl
theorem eqD_bl (b : Bool) : eqD (.bl b) (.bl b) = .ok (.bl true) := eqD_self (n := 0) (.bl b) (by decide)
theorem maxD_int (i j : Int) : maxD [.int i, .int j] = .ok (.int (maxI i j)) := rfl
theorem minD_int (i j : Int) : minD [.int i, .int j] = .ok (.int (minI i j)) := rfl
theorem maxD_l2 (i j : Int) : maxD [.lst [.int i, .int j]] = .ok (.int (maxI i j)) := rfl
theorem minD_l2 (i j : Int) : minD [.lst [.int i, .int j]] = .ok (.int (minI i j)) := rfl
/-! rows of ints -/
theorem listD_ints (ns : List Int) : listD [.lst (ns.map D.int)] = .ok (.lst (ns.map D.int)) := by
  unfold listD; simp only; rw [if_pos (immDs_ints ns)]
theorem ixN_lt {n : Nat} {k : Int} (h0 : 0 ≤ k) (h : k < n) : ixN n k = some k.toNat := by unfold ixN; rw [if_pos h0, if_pos h]
theorem setS_ints {i : Nat} {fk fe : Env → R D} {ρ : Env} {ns : List Int} {k v : Int} (he : fe ρ = .ok (.int v)) (hρ : ρ[i]? = some (some (.lst (ns.map D.int)))) (hk : fk ρ = .ok (.int k)) (h0 : 0 ≤ k) (h : k < ns.length) :
    setS i fk fe ρ = .nx (ρ.set i (some (.lst ((ns.set k.toNat v).map D.int)))) := by
  unfold setS
  rw [he]
  simp only [bindS_ok]
  rw [hρ]
  simp only
  rw [hk]
  simp only [bindS_ok]
  rw [ixN_lt h0 (by rw [List.length_map]; exact h)]
  simp only
  rw [List.map_set]
theorem appS_ints {i : Nat} {f : Env → R D} {ρ : Env} {ns : List Int} {v : Int} (he : f ρ = .ok (.int v)) (hρ : ρ[i]? = some (some (.lst (ns.map D.int)))) (h : ns.length < 16000000) :
    appS i f ρ = .nx (ρ.set i (some (.lst ((ns ++ [v]).map D.int)))) := by
  unfold appS
  rw [hρ]
  simp only
  rw [he]
  simp only [bindS_ok]
  rw [if_pos (by rw [sizeLine_eq, List.length_map]; omega), List.map_append]
  rfl
theorem rangeSize_spec {i j c : Int} (hc : 0 < c) : (∀ t : Nat, t < (Builtin.Range.rangeSize i j c).toNat → i + (t : Int) * c < j) ∧ j ≤ i + ((Builtin.Range.rangeSize i j c).toNat : Int) * c := by
  unfold Builtin.Range.rangeSize
  rw [if_pos hc]
  split
  · rename_i h
    have h1 := Int.mul_ediv_self_le (x := j - i - 1) (k := c) (by omega)
    have h2 := Int.lt_mul_ediv_self_add (x := j - i - 1) (k := c) hc
    have h3 := Int.ediv_nonneg (a := j - i - 1) (b := c) (by omega) (by omega)
    generalize (j - i - 1) / c = q at *
    rw [Int.mul_comm] at h1 h2
    constructor
    · intro t ht
      have := Int.mul_le_mul_of_nonneg_right (show (t : Int) ≤ q by omega) (show 0 ≤ c by omega)
      omega
    · rw [Int.toNat_of_nonneg (by omega), Int.add_mul, Int.one_mul]
      omega
  · rename_i h
    constructor
    · intro t ht
      exact absurd ht (by simp)
    · simp only [Int.toNat_zero]
      omega
theorem rngC_at {lo c : Int} {n i : Nat} {d : D} (h : (rngC lo c n)[i]? = some d) : i < n ∧ d = .int (lo + (i : Int) * c) := by
  have h1 := (List.getElem?_eq_some_iff.mp h).1
  rw [rngC_length] at h1
  refine ⟨h1, ?_⟩
  unfold rngC at h
  rw [List.getElem?_map, List.getElem?_range h1] at h
  exact (Option.some.inj h).symm
theorem rngL_at {lo : Int} {n i : Nat} {d : D} (h : (rngL lo n)[i]? = some d) : i < n ∧ d = .int (lo + (i : Int)) := by
  have h1 := (List.getElem?_eq_some_iff.mp h).1
  rw [rngL_length] at h1
  refine ⟨h1, ?_⟩
  unfold rngL at h
  rw [List.getElem?_map, List.getElem?_range h1] at h
  exact (Option.some.inj h).symm
/-- a loop by its turns -/
theorem forL_go {tf : D → Env → Option Env} {b : Env → Sr} {ds : List D} {ρ : Env} (I : Nat → Env → Prop) (h : I 0 ρ)
    (k : ∀ i d, ds[i]? = some d → ∀ ρ, I i ρ → ∃ ρ1, tf d ρ = some ρ1 ∧ Go (I (i + 1)) (b ρ1)) : ∃ ρ', forL tf b ds ρ = .nx ρ' ∧ I ds.length ρ' := by
  refine forL_i (tf := tf) (b := b) (ds := ds) I h fun i d ρ hd hi => ?_
  obtain ⟨ρ1, e1, e2⟩ := k i d hd ρ hi
  cases hb : b ρ1 with
  | nx ρ2 => rw [hb] at e2; exact ⟨ρ1, ρ2, e1, .inl hb, e2⟩
  | ct ρ2 => rw [hb] at e2; exact ⟨ρ1, ρ2, e1, .inr hb, e2⟩
  | st => rw [hb] at e2; exact e2.elim
  | rt d => rw [hb] at e2; exact e2.elim
  | rb d ρ2 => rw [hb] at e2; exact e2.elim
  | bk ρ2 => rw [hb] at e2; exact e2.elim
  | ex c => rw [hb] at e2; exact e2.elim
theorem body_forI {tf : D → Env → Option Env} {b q : Env → Sr} {ds : List D} {ρ : Env} {x : R D} (I : Nat → Env → Prop) (h : I 0 ρ)
    (k : ∀ i d, ds[i]? = some d → ∀ ρ, I i ρ → ∃ ρ1, tf d ρ = some ρ1 ∧ Go (I (i + 1)) (b ρ1)) (fin : ∀ ρ, I ds.length ρ → bodyR (q ρ) = x) : bodyR ((forL tf b ds ρ).seq q) = x := by
  obtain ⟨ρ', h1, h2⟩ := forL_go I h k
  rw [h1]
  exact fin ρ' h2
theorem Go.seq {J : Env → Prop} {s : Sr} {q : Env → Sr} {I : Env → Prop} (h : ∃ ρ, s = .nx ρ ∧ J ρ) (k : ∀ ρ, J ρ → Go I (q ρ)) : Go I (s.seq q) := by
  obtain ⟨ρ, h1, h2⟩ := h
  rw [h1]
  exact k ρ h2
theorem Go.mono {I J : Env → Prop} {s : Sr} (h : Go I s) (k : ∀ ρ, I ρ → J ρ) : Go J s := by
  cases s with
  | nx ρ => exact k ρ h
  | ct ρ => exact k ρ h
  | st => exact h
  | rt d => exact h
  | rb d ρ2 => exact h
  | bk ρ => exact h
  | ex c => exact h
theorem maxD_ints (n : Int) (ns : List Int) : maxD [.lst ((n :: ns).map D.int)] = .ok (.int (maxL (n :: ns))) := by
  unfold maxD
  simp only
  rw [intsO_map]
theorem minD_ints (n : Int) (ns : List Int) : minD [.lst ((n :: ns).map D.int)] = .ok (.int (minL (n :: ns))) := by
  unfold minD
  simp only
  rw [intsO_map]
theorem foldl_maxI : ∀ (r : List Int) (x : Int), x ≤ r.foldl maxI x ∧ (∀ y ∈ r, y ≤ r.foldl maxI x) ∧ (r.foldl maxI x = x ∨ r.foldl maxI x ∈ r)
  | [], x => ⟨Int.le_refl _, (fun y h => nomatch h), .inl rfl⟩
  | y :: r, x => by
    obtain ⟨a1, a2, a3⟩ := foldl_maxI r (maxI x y)
    have h1 : x ≤ maxI x y ∧ y ≤ maxI x y ∧ (maxI x y = x ∨ maxI x y = y) := by
      unfold maxI
      split <;> omega
    rw [List.foldl_cons]
    refine ⟨by omega, fun z hz => ?_, ?_⟩
    · rcases List.mem_cons.mp hz with e | h
      · subst e; omega
      · exact a2 z h
    · rcases a3 with e | h
      · rcases h1.2.2 with g | g
        · exact .inl (e.trans g)
        · exact .inr (by rw [e, g]; exact List.mem_cons_self)
      · exact .inr (List.mem_cons_of_mem _ h)
theorem maxL_spec {ns : List Int} (h : ns ≠ []) : maxL ns ∈ ns ∧ ∀ y ∈ ns, y ≤ maxL ns := by
  cases ns with
  | nil => exact absurd rfl h
  | cons n ns =>
    obtain ⟨a1, a2, a3⟩ := foldl_maxI ns n
    refine ⟨?_, fun y hy => ?_⟩
    · show ns.foldl maxI n ∈ n :: ns
      rcases a3 with e | g
      · rw [e]; exact List.mem_cons_self
      · exact List.mem_cons_of_mem _ g
    · show y ≤ ns.foldl maxI n
      rcases List.mem_cons.mp hy with e | g
      · subst e; exact a1
      · exact a2 y g
theorem bls_map : ∀ bs : List Bool, bls (bs.map D.bl) = some bs
  | [] => rfl
  | b :: bs => by rw [List.map_cons, bls, bls_map bs]; rfl
theorem anyD_bls (bs : List Bool) : anyD [.lst (bs.map D.bl)] = .ok (.bl (bs.any id)) := by
  unfold anyD
  simp only
  rw [bls_map]
theorem allD_bls (bs : List Bool) : allD [.lst (bs.map D.bl)] = .ok (.bl (bs.all id)) := by
  unfold allD
  simp only
  rw [bls_map]
/-! rows lifted in place, of anything: at the places of half h each next thing is made of it and its neighbours at the stride -/
section lg
variable {α : Type}
def lgNew (z : α) (F : α → α → α → α) (xs : List α) (S p : Nat) : α :=
  if p < S ∧ xs.length ≤ p + S then xs.getD p z else
    F (xs.getD p z) (xs.getD (if p < S then p + S else p - S) z) (xs.getD (if xs.length ≤ p + S then p - S else p + S) z)
def lgAt (z : α) (F : α → α → α → α) (xs : List α) (S h b i : Nat) : α :=
  if i % S = 0 ∧ (i / S) % 2 = h ∧ i < b then lgNew z F xs S i else xs.getD i z
def lgB (z : α) (F : α → α → α → α) (xs : List α) (S h b : Nat) : List α := (List.range xs.length).map (lgAt z F xs S h b)
def lg (z : α) (F : α → α → α → α) (xs : List α) (S h : Nat) : List α := lgB z F xs S h xs.length
variable {z : α} {F : α → α → α → α} {xs : List α} {S h b t : Nat}
theorem lgB_length : (lgB z F xs S h b).length = xs.length := by simp [lgB]
theorem lg_length : (lg z F xs S h).length = xs.length := lgB_length
theorem lgB_getD {i : Nat} (hi : i < xs.length) : (lgB z F xs S h b).getD i z = lgAt z F xs S h b i := by
  unfold lgB
  rw [List.getD_eq_getElem?_getD, List.getElem?_map, List.getElem?_range hi]
  rfl
theorem lg_none {i : Nat} (hi : xs.length ≤ i) : xs.getD i z = z := by
  rw [List.getD_eq_getElem?_getD, List.getElem?_eq_none hi]
  rfl
theorem lgB_none {i : Nat} (k : i % S = 0 ∧ (i / S) % 2 = h ∧ i < b → False) : (lgB z F xs S h b).getD i z = xs.getD i z := by
  by_cases hi : i < xs.length
  · rw [lgB_getD hi]
    unfold lgAt
    rw [if_neg k]
  · rw [lg_none (by rw [lgB_length]; omega), lg_none (by omega)]
theorem lg_ext {xs ys : List α} (z : α) (hl : xs.length = ys.length) (k : ∀ i, i < xs.length → xs.getD i z = ys.getD i z) : xs = ys := by
  refine List.ext_getElem hl fun i h1 h2 => ?_
  have := k i h1
  rw [List.getD_eq_getElem?_getD, List.getD_eq_getElem?_getD, List.getElem?_eq_getElem h1, List.getElem?_eq_getElem h2] at this
  exact this
theorem lgB_start (hS : 0 < S) (hb : b ≤ h * S) (hh : h ≤ 1) : lgB z F xs S h b = xs := by
  refine lg_ext z lgB_length fun i hi => ?_
  rw [lgB_none]
  rintro ⟨h1, h2, h3⟩
  have h4 := Nat.div_add_mod i S
  have h5 : i / S < h := Nat.lt_of_mul_lt_mul_right (a := S) (by rw [Nat.mul_comm]; omega)
  generalize i / S = q at h2 h5
  omega
theorem lgB_end (hb : xs.length ≤ b) : lgB z F xs S h b = lg z F xs S h := by
  refine lg_ext z (by rw [lgB_length, lg_length]) fun i hi => ?_
  rw [lgB_length] at hi
  unfold lg
  rw [lgB_getD hi, lgB_getD hi]
  unfold lgAt
  simp only [hi, show i < b by omega, and_true]
theorem lg_hit (hS : 0 < S) (hh : h ≤ 1) : ((h + 2 * t) * S) % S = 0 ∧ (((h + 2 * t) * S) / S) % 2 = h := by
  rw [Nat.mul_mod_left, Nat.mul_div_cancel _ hS]
  exact ⟨rfl, by omega⟩
theorem lg_right (hS : 0 < S) (hh : h ≤ 1) : (((h + 2 * t) * S + S) / S) % 2 ≠ h := by
  rw [← Nat.succ_mul, Nat.mul_div_cancel _ hS]
  omega
theorem lg_left (hS : 0 < S) (hh : h ≤ 1) (hp : S ≤ (h + 2 * t) * S) : (((h + 2 * t) * S - S) / S) % 2 ≠ h := by
  have h1 : 1 ≤ h + 2 * t := by
    cases hk : h + 2 * t with
    | zero => rw [hk, Nat.zero_mul] at hp; omega
    | succ k => omega
  rw [show (h + 2 * t) * S - S = (h + 2 * t - 1) * S from (Nat.sub_one_mul _ _).symm, Nat.mul_div_cancel _ hS]
  omega
/-- at the next place the half lifted row still tells what the row told -/
theorem lg_step_new (hS : 0 < S) (hh : h ≤ 1) : lgNew z F (lgB z F xs S h ((h + 2 * t) * S)) S ((h + 2 * t) * S) = lgNew z F xs S ((h + 2 * t) * S) := by
  unfold lgNew
  rw [lgB_length]
  have e0 : (lgB z F xs S h ((h + 2 * t) * S)).getD ((h + 2 * t) * S) z = xs.getD ((h + 2 * t) * S) z := lgB_none fun k => Nat.lt_irrefl _ k.2.2
  rw [e0]
  split
  · rfl
  · rename_i hn
    have e1 : (lgB z F xs S h ((h + 2 * t) * S)).getD (if (h + 2 * t) * S < S then (h + 2 * t) * S + S else (h + 2 * t) * S - S) z = xs.getD (if (h + 2 * t) * S < S then (h + 2 * t) * S + S else (h + 2 * t) * S - S) z := by
      split
      · exact lgB_none fun ⟨_, k, _⟩ => lg_right hS hh k
      · exact lgB_none fun ⟨_, k, _⟩ => lg_left hS hh (by omega) k
    have e2 : (lgB z F xs S h ((h + 2 * t) * S)).getD (if xs.length ≤ (h + 2 * t) * S + S then (h + 2 * t) * S - S else (h + 2 * t) * S + S) z = xs.getD (if xs.length ≤ (h + 2 * t) * S + S then (h + 2 * t) * S - S else (h + 2 * t) * S + S) z := by
      split
      · exact lgB_none fun ⟨_, k, _⟩ => lg_left hS hh (by omega) k
      · exact lgB_none fun ⟨_, k, _⟩ => lg_right hS hh k
    rw [e1, e2]
theorem lg_step_set (hS : 0 < S) (hh : h ≤ 1) (hp : (h + 2 * t) * S < xs.length) :
    (lgB z F xs S h ((h + 2 * t) * S)).set ((h + 2 * t) * S) (lgNew z F xs S ((h + 2 * t) * S)) = lgB z F xs S h ((h + 2 * (t + 1)) * S) := by
  have e : (h + 2 * (t + 1)) * S = (h + 2 * t) * S + 2 * S := by rw [← Nat.add_mul]; congr 1
  refine lg_ext z (by rw [List.length_set, lgB_length, lgB_length]) fun i hi => ?_
  rw [List.length_set, lgB_length] at hi
  rw [List.getD_eq_getElem?_getD, List.getElem?_set]
  by_cases hq : (h + 2 * t) * S = i
  · rw [if_pos hq, if_pos (by rw [lgB_length]; omega), lgB_getD hi]
    unfold lgAt
    have := lg_hit (t := t) hS hh
    rw [hq] at this
    rw [if_pos ⟨this.1, this.2, by rw [e]; omega⟩, hq]
    rfl
  · rw [if_neg hq, ← List.getD_eq_getElem?_getD, lgB_getD hi, lgB_getD hi]
    unfold lgAt
    by_cases h1 : i % S = 0 ∧ (i / S) % 2 = h
    · have h4 := Nat.div_add_mod i S
      rw [h1.1, Nat.add_zero, Nat.mul_comm] at h4
      by_cases h2 : i < (h + 2 * t) * S
      · rw [if_pos ⟨h1.1, h1.2, h2⟩, if_pos ⟨h1.1, h1.2, by rw [e]; omega⟩]
      · rw [if_neg (fun k => h2 k.2.2), if_neg]
        rintro ⟨_, _, h3⟩
        have h5 : i / S < h + 2 * (t + 1) := Nat.lt_of_mul_lt_mul_right (a := S) (by omega)
        have h6 : ¬ i / S < h + 2 * t := fun h7 => h2 (by
          have := Nat.mul_lt_mul_of_pos_right h7 hS
          omega)
        have h7 : i / S = h + 2 * t := by omega
        rw [h7] at h4
        exact hq h4
    · rw [if_neg (fun k => h1 ⟨k.1, k.2.1⟩), if_neg (fun k => h1 ⟨k.1, k.2.1⟩)]
theorem lg_short (hl : xs.length ≤ S) : lg z F xs S h = xs := by
  refine lg_ext z lg_length fun i hi => ?_
  rw [lg_length] at hi
  unfold lg
  rw [lgB_getD hi]
  unfold lgAt
  split
  · unfold lgNew
    rw [if_pos ⟨by omega, by omega⟩]
  · rfl
def lgParts (z : α) (xs : List α) (S P : Nat) : List α := (List.range P).map fun k => xs.getD (k * S) z
theorem lgParts_length {P : Nat} : (lgParts z xs S P).length = P := by simp [lgParts]
theorem lgParts_getD {P k : Nat} (hk : k < P) : (lgParts z xs S P).getD k z = xs.getD (k * S) z := by
  unfold lgParts
  rw [List.getD_eq_getElem?_getD, List.getElem?_map, List.getElem?_range hk]
  rfl
theorem lgNew_k {P k : Nat} (hS : 0 < S) (hk : k < P) (hP : 1 < P) (h1 : ∀ t, t < P → t * S < xs.length) (h2 : xs.length ≤ P * S) :
    lgNew z F xs S (k * S) = F ((lgParts z xs S P).getD k z) ((lgParts z xs S P).getD (if k = 0 then 1 else k - 1) z) (if k + 1 < P then (lgParts z xs S P).getD (k + 1) z else (lgParts z xs S P).getD (if k = 0 then 1 else k - 1) z) := by
  have e1 : k * S < S ↔ k = 0 := ⟨fun h => by
    cases k with
    | zero => rfl
    | succ j => rw [Nat.succ_mul] at h; omega, fun h => by rw [h, Nat.zero_mul]; exact hS⟩
  have e2 : k * S + S = (k + 1) * S := (Nat.succ_mul k S).symm
  have e3 : xs.length ≤ k * S + S ↔ ¬ k + 1 < P := ⟨fun h h' => by have := h1 _ h'; omega, fun h => by
    have := Nat.mul_le_mul_right S (show P ≤ k + 1 by omega)
    omega⟩
  have e4 : k * S - S = (k - 1) * S := (Nat.sub_one_mul k S).symm
  unfold lgNew
  rw [e2, e4] at *
  rw [lgParts_getD hk]
  by_cases q1 : k = 0
  · have q2 : k + 1 < P := by omega
    rw [if_neg (fun z => e3.mp z.2 q2), if_pos (e1.mpr q1), if_neg (fun z => e3.mp z q2), if_pos q1, if_pos q2, lgParts_getD q2, lgParts_getD hP, q1]
  · rw [if_neg (fun z => q1 (e1.mp z.1)), if_neg (fun z => q1 (e1.mp z)), if_neg q1, lgParts_getD (show k - 1 < P by omega)]
    by_cases q2 : k + 1 < P
    · rw [if_neg (fun z => e3.mp z q2), if_pos q2, lgParts_getD q2]
    · rw [if_pos (e3.mpr q2), if_neg q2]
end lg
theorem body_forE {α : Type} {tf : D → Env → Option Env} {b q : Env → Sr} {ds : List D} {ρ : Env} {x : α → R D} {P : α → Prop} (I : Nat → Env → Prop) (h : I 0 ρ)
    (k : ∀ i d, ds[i]? = some d → ∀ ρ, I i ρ → ∃ ρ1, tf d ρ = some ρ1 ∧ Go (I (i + 1)) (b ρ1)) (fin : ∀ ρ, I ds.length ρ → ∃ a, bodyR (q ρ) = x a ∧ P a) : ∃ a, bodyR ((forL tf b ds ρ).seq q) = x a ∧ P a := by
  obtain ⟨ρ', h1, h2⟩ := forL_go I h k
  rw [h1]
  exact fin ρ' h2
theorem neD_str (x : Str) (h : PyData.strOk x = true) : neD (.str x) (.str x) = .ok (.bl false) := neD_self (n := 0) (.str x h) (by decide)
theorem eqD_str (x : Str) (h : PyData.strOk x = true) : eqD (.str x) (.str x) = .ok (.bl true) := eqD_self (n := 0) (.str x h) (by decide)
theorem eqD_ofFl {d e : D} {n : Nat} (h : Fl n d) (k : Fl n e) (hn : n ≤ 64) : eqD d e = .ok (.bl (eqB d e)) := by
  unfold eqD
  rw [if_pos ⟨h.shaped hn, k.shaped hn⟩]
theorem neD_ofFl {d e : D} {n : Nat} (h : Fl n d) (k : Fl n e) (hn : n ≤ 64) : neD d e = .ok (.bl (!eqB d e)) := by
  unfold neD
  rw [if_pos ⟨h.shaped hn, k.shaped hn⟩]
theorem eqB_lst_nil (x : D) (xs : List D) : eqB (.lst (x :: xs)) (.lst []) = false := by
  unfold eqB
  simp only [pyD, pyDs, PyData.eqv, PyData.eqvAll]
theorem eqB_nil : eqB (.lst []) (.lst []) = true := by
  unfold eqB
  simp only [pyD, pyDs, PyData.eqv, PyData.eqvAll]
theorem unpS_at {is : List Nat} {f : Env → R D} {ρ : Env} {ds : List D} (h : f ρ = .ok (.tup ds)) (hl : ds.length = is.length) : unpS is f ρ = .nx (putAll is ds ρ) := by
  unfold unpS
  rw [h, R.bind_ok]
  unfold unpR
  simp only
  rw [if_pos hl]
  rfl
end Vs

namespace Lw
open PySem PySem.Spec PyProof.Rows L2 Vs

def topS (i : Nat) : Stmt := PySem.Challenge.pw_liftwave_k49_rows_read.main.body.getD i (.Pass ⟨0, 0, 0, 0⟩)
def tb_NoText : List (Str × Bool) := [("NoRow", false), ("NoText", true)]
def tb_WaveError : List (Str × Bool) := [("NoRow", true), ("NoText", true)]
def tbI : List (Str × List (Str × Bool)) := [("NoRow", [("NoBits", false), ("NoHead", false), ("NoLadder", false), ("NoLevel", false), ("NoPicture", false), ("NoPiece", false), ("NoRow", true), ("NoText", false), ("TooMany", false), ("ValueError", true)]), ("NoText", [("NoBits", false), ("NoHead", false), ("NoLadder", false), ("NoLevel", false), ("NoPicture", false), ("NoPiece", false), ("NoRow", false), ("NoText", true), ("TooMany", false), ("ValueError", true)])]
def tbF : List (Str × List Str) := [("Question", []), ("Size", []), ("Bits", []), ("Broad", []), ("At", ["i", "j"]), ("Level", ["k"]), ("Piece", ["top", "left", "high", "wide"])]
def tbO : List (Str × List (Str × Bool)) := [("All", [("All", true), ("At", false), ("Bits", false), ("Broad", false), ("Level", false), ("Piece", false), ("Question", true), ("Size", false)]), ("At", [("All", false), ("At", true), ("Bits", false), ("Broad", false), ("Level", false), ("Piece", false), ("Question", true), ("Size", false)]), ("Bits", [("All", false), ("At", false), ("Bits", true), ("Broad", false), ("Level", false), ("Piece", false), ("Question", true), ("Size", false)]), ("Broad", [("All", false), ("At", false), ("Bits", false), ("Broad", true), ("Level", false), ("Piece", false), ("Question", true), ("Size", false)]), ("Level", [("All", false), ("At", false), ("Bits", false), ("Broad", false), ("Level", true), ("Piece", false), ("Question", true), ("Size", false)]), ("Piece", [("All", false), ("At", false), ("Bits", false), ("Broad", false), ("Level", false), ("Piece", true), ("Question", true), ("Size", false)]), ("Size", [("All", false), ("At", false), ("Bits", false), ("Broad", false), ("Level", false), ("Piece", false), ("Question", true), ("Size", true)])]
structure Txt (w : World) (K : PySem.W.Frag) (mg : Str → Option Value) : Prop where
  fld : FT K tbF
  x_NoBits : ExR K mg "NoBits"
  x_NoHead : ExR K mg "NoHead"
  x_NoLadder : ExR K mg "NoLadder"
  x_NoLevel : ExR K mg "NoLevel"
  x_NoPicture : ExR K mg "NoPicture"
  x_NoPiece : ExR K mg "NoPiece"
  x_NoRow : ExR K mg "NoRow"
  x_NoText : ExR K mg "NoText"
  x_TooMany : ExR K mg "TooMany"
  x_WaveError : ExR K mg "WaveError"
  h_NoText : ExM K mg "NoText" tb_NoText
  h_WaveError : ExM K mg "WaveError" tb_WaveError
  is_tab : IsT K mg tbI
  iso_tab : IsTO K mg tbO
  cl_All : ∃ C, mg "All" = some (.ref C)
  cl_At : ∃ C, mg "At" = some (.ref C)
  cl_Bits : ∃ C, mg "Bits" = some (.ref C)
  cl_Broad : ∃ C, mg "Broad" = some (.ref C)
  cl_Level : ∃ C, mg "Level" = some (.ref C)
  cl_Piece : ∃ C, mg "Piece" = some (.ref C)
  cl_Question : ∃ C, mg "Question" = some (.ref C)
  cl_Size : ∃ C, mg "Size" = some (.ref C)
  mo_All : MkOM K mg "All"
  mo_Bits : MkOM K mg "Bits"
  mo_Broad : MkOM K mg "Broad"
  mo_Size : MkOM K mg "Size"
  b_ValueError : mg "ValueError" = none
  b_isinstance : mg "isinstance" = none
  b_len : mg "len" = none
  b_list : mg "list" = none
  b_range : mg "range" = none
  b_str : mg "str" = none
  g_FIGURES : ConM mg "FIGURES" (.str "0123456789")
/-! _wall -/
abbrev s_wall : Stmt := topS 0
theorem sc_wall : FnScope ["k"] ["k"] (defScope s_wall) := ⟨rfl, rfl, rfl, by decide +kernel, rfl, by decide +kernel, by decide +kernel⟩
noncomputable def b_wall : Vs.Env → Sr := (whileS (boolR (cE (.bl true))) nilS)
noncomputable def m_wall : List D → R D := runB 1 b_wall
theorem r_wall (x0 : D) : m_wall [x0] = bodyR (b_wall [some x0]) := rfl
theorem c_wall {P : Program} {w : World} {K : PySem.W.Frag} {mg : Str → Option Value} {base : Heap} (T : Txt w K mg) (F : Def K mg "_wall" s_wall) :
    Cal P w K mg base "_wall" ["k"] 1 m_wall :=
  cal_mk (k := 0) (own' := []) (N := ["k"]) (b := b_wall) F sc_wall (by decide) (fun _ _ _ _ _ _ us hl => match us, hl with | [_], _ => rfl) fun f cdv A outer s H E hr =>
      (vs_one (vs_while (own := []) (passes_of rfl) (vt_val (VG.ve vg_bl)) (vs_one vs_pass)))
/-! read_number -/
abbrev s_read_number : Stmt := topS 14
theorem sc_read_number : FnScope ["word", "figures", "sign", "number"] ["word"] (defScope s_read_number) := ⟨rfl, rfl, rfl, by decide +kernel, rfl, by decide +kernel, by decide +kernel⟩
noncomputable def b_read_number : Vs.Env → Sr := (seqS (asgS 1 (imm (varE 0)))
    (seqS (ifS (boolR (m1E startsG (varE 0) (cE (.str "-")))) (asgS 1 (slG (varE 0) (someO (cE (.int 1))) noO)) nilS)
    (seqS (ifS (notT (boolR (chD leD leD (cE (.int 1)) (callB lenD (consA (varE 1) nilA)) (cE (.int 4))))) (raiseS "NoText") nilS)
    (seqS (forS (itV itemsR (varE 1)) (tgN 2) (ifS (boolR (op2 ninSignD (varE 2) (cE (.str "0123456789")))) (raiseS "NoText") nilS))
    (seqS (ifS (andT (boolR (op2 eqD (op2 ixD (varE 1) (cE (.int 0))) (cE (.str "0")))) (boolR (op2 neD (varE 0) (cE (.str "0"))))) (raiseS "NoText") nilS)
    (seqS (asgS 3 (cE (.int 0)))
    (seqS (forS (itV itemsR (varE 1)) (tgN 2) (asgS 3 (op2 addD (op2 mulD (cE (.int 10)) (varE 3)) (m1E indexG (cE (.str "0123456789")) (varE 2)))))
    (seqS (ifS (boolR (op2 neD (varE 1) (varE 0))) (retS (negE (varE 3))) nilS)
    (retV 3)))))))))
noncomputable def m_read_number : List D → R D := runB 4 b_read_number
theorem r_read_number (x0 : D) : m_read_number [x0] = bodyR (b_read_number [some x0, none, none, none]) := rfl
theorem c_read_number {P : Program} {w : World} {K : PySem.W.Frag} {mg : Str → Option Value} {base : Heap} (T : Txt w K mg) (F : Def K mg "read_number" s_read_number) :
    CalN P w K mg base "read_number" ["word"] 1 m_read_number :=
  calN_mk (k := 0) (own' := []) (N := ["word", "figures", "sign", "number"]) (b := b_read_number) F sc_read_number (by decide) (fun _ _ _ _ _ _ us hl => match us, hl with | [_], _ => rfl) fun f cdv A outer s H E hr =>
      (vs_cons (vs_set 1 sc_read_number.nd rfl (by first | exact Or.inl rfl | exact Or.inr rfl) (VE.vg (ve_var 0 (pv 0))))
      (vs_cons (vs_if (own' := [1, 1]) (vt_val (VG.ve (vg_m1 PySem.F.slot_str_startswith PySem.F.type_str_startswith mt_startswith md_startswith mn_startswith (ve_var 0 (pv 0)) (VG.ve vg_str)))) (vs_one (vs_set 1 sc_read_number.nd rfl (by first | exact Or.inl rfl | exact Or.inr rfl) (vg_sl (ve_var 0 (pv 0)) (vo_some (VG.ve vg_int)) vo_none))) (VSs.weak (own'' := [1, 1]) vs_nil))
      (vs_cons (vs_if (own' := [1, 1]) (vt_not (vt_ch op_le op_le d_le nx_le d_le nx_le (VG.ve vg_int) (VG.ve (vg_callB call_len cb_len nx_len rfl T.b_len PySem.boot_len (va_cons (ve_var 1 (pv 1)) va_nil))) (VG.ve vg_int))) (vs_one (vs_raiseN T.x_NoText rfl (L2N.takes_of rfl rfl rfl rfl) rfl)) vs_nil)
      (vs_cons (VS.pre (own := [1, 1]) (vs_for (own := []) (passes_of rfl) rfl (vi_seq (vp_var 1 (pv 1))) ⟨_, (pg_name (i := 2) sc_read_number.nd rfl (by first | exact Or.inl rfl | exact Or.inr rfl)), (tk_name 2)⟩ (vs_one (vs_if (own' := []) (vt_cmp op_notIn_sign d_ninSign nx_ninSign (ve_var 2 (pv 2)) (VG.ve (vg_conS T.g_FIGURES rfl)) (by rfl)) (vs_one (vs_raiseN T.x_NoText rfl (L2N.takes_of rfl rfl rfl rfl) rfl)) vs_nil))))
      (vs_cons (vs_if (own' := []) (VW.vt (vw_and (vt_cmp (op_eqD hr.units) d_eq nx_eq (ve_ix (ve_var 1 (pv 1)) (VG.ve vg_int) (fun _ _ => rfl)) (VG.ve vg_str) (nomark _)) (vw_and1 (vt_cmp (op_neD hr.units) d_ne nx_ne (ve_var 0 (pv 0)) (VG.ve vg_str) (nomark _))))) (vs_one (vs_raiseN T.x_NoText rfl (L2N.takes_of rfl rfl rfl rfl) rfl)) vs_nil)
      (vs_cons (vs_set 3 sc_read_number.nd rfl (by first | exact Or.inl rfl | exact Or.inr rfl) vg_int)
      (vs_cons (vs_for (own := [3]) (passes_of rfl) rfl (vi_seq (vp_var 1 (pv 1))) ⟨_, (pg_name (i := 2) sc_read_number.nd rfl (by first | exact Or.inl rfl | exact Or.inr rfl)), (tk_name 2)⟩ (VSs.weak (own'' := [3]) (vs_one (vs_set 3 sc_read_number.nd rfl (by first | exact Or.inl rfl | exact Or.inr rfl) (vg_op op_addA d_add nx_add (VG.ve (vg_op op_mulI d_mul nx_mul (VG.ve vg_int) (ve_var 3 (pv 3)))) (VG.ve (vg_indexN rfl (VG.ve (vg_conS T.g_FIGURES rfl)) (ve_var 2 (pv 2)))))))))
      (vs_cons (vs_if (own' := [3]) (vt_cmp (op_neD hr.units) d_ne nx_ne (ve_var 1 (pv 1)) (ve_var 0 (pv 0)) (nomark _)) (vs_one (vs_ret (vg_neg (ve_var 3 (pv 3))))) vs_nil)
      (vs_one (vs_retV 3 (pv 3)))))))))))
/-! answer -/
abbrev s_Question_answer : Stmt := inClass (topS 16) 0
theorem sc_Question_answer : FnScope ["self", "head", "bits", "whole"] ["self", "head", "bits", "whole"] (defScope s_Question_answer) := ⟨rfl, rfl, rfl, by decide +kernel, rfl, by decide +kernel, by decide +kernel⟩
noncomputable def b_Question_answer : Vs.Env → Sr := (exprS (callF m_wall (consA (cE (.int 0)) nilA)))
noncomputable def m_Question_answer : List D → R D := runB 4 b_Question_answer
theorem r_Question_answer (x0 x1 x2 x3 : D) : m_Question_answer [x0, x1, x2, x3] = bodyR (b_Question_answer [some x0, some x1, some x2, some x3]) := rfl
theorem c_Question_answer {P : Program} {w : World} {K : PySem.W.Frag} {mg : Str → Option Value} {base : Heap} (T : Txt w K mg) (F : MDef K mg "Question" "answer" "Question.answer" s_Question_answer) (c_wall : Cal P w K mg base "_wall" ["k"] 1 m_wall) :
    CalM P w K mg base "Question" "answer" ["self", "head", "bits", "whole"] 2 m_Question_answer :=
  calM_mk (k := 1) (own' := []) (N := ["self", "head", "bits", "whole"]) (b := b_Question_answer) F sc_Question_answer (by decide) (fun _ _ _ _ _ _ us hl => match us, hl with | [_, _, _, _], _ => rfl) fun f cdv A outer s H E hr =>
      (vs_one (vs_expr (VG.ve (vg_fn c_wall hr (takes_of rfl rfl rfl rfl) rfl (va_cons (VG.ve vg_int) va_nil) (len_cons len_nil)))))
/-! answer -/
abbrev s_Size_answer : Stmt := inClass (topS 18) 0
theorem sc_Size_answer : FnScope ["self", "head", "bits", "whole"] ["self", "head", "bits", "whole"] (defScope s_Size_answer) := ⟨rfl, rfl, rfl, by decide +kernel, rfl, by decide +kernel, by decide +kernel⟩
noncomputable def b_Size_answer : Vs.Env → Sr := (exprS (callF m_wall (consA (cE (.int 1)) nilA)))
noncomputable def m_Size_answer : List D → R D := runB 4 b_Size_answer
theorem r_Size_answer (x0 x1 x2 x3 : D) : m_Size_answer [x0, x1, x2, x3] = bodyR (b_Size_answer [some x0, some x1, some x2, some x3]) := rfl
theorem c_Size_answer {P : Program} {w : World} {K : PySem.W.Frag} {mg : Str → Option Value} {base : Heap} (T : Txt w K mg) (F : MDef K mg "Size" "answer" "Size.answer" s_Size_answer) (c_wall : Cal P w K mg base "_wall" ["k"] 1 m_wall) :
    CalM P w K mg base "Size" "answer" ["self", "head", "bits", "whole"] 2 m_Size_answer :=
  calM_mk (k := 1) (own' := []) (N := ["self", "head", "bits", "whole"]) (b := b_Size_answer) F sc_Size_answer (by decide) (fun _ _ _ _ _ _ us hl => match us, hl with | [_, _, _, _], _ => rfl) fun f cdv A outer s H E hr =>
      (vs_one (vs_expr (VG.ve (vg_fn c_wall hr (takes_of rfl rfl rfl rfl) rfl (va_cons (VG.ve vg_int) va_nil) (len_cons len_nil)))))
/-! answer -/
abbrev s_Bits_answer : Stmt := inClass (topS 19) 0
theorem sc_Bits_answer : FnScope ["self", "head", "bits", "whole"] ["self", "head", "bits", "whole"] (defScope s_Bits_answer) := ⟨rfl, rfl, rfl, by decide +kernel, rfl, by decide +kernel, by decide +kernel⟩
noncomputable def b_Bits_answer : Vs.Env → Sr := (exprS (callF m_wall (consA (cE (.int 2)) nilA)))
noncomputable def m_Bits_answer : List D → R D := runB 4 b_Bits_answer
theorem r_Bits_answer (x0 x1 x2 x3 : D) : m_Bits_answer [x0, x1, x2, x3] = bodyR (b_Bits_answer [some x0, some x1, some x2, some x3]) := rfl
theorem c_Bits_answer {P : Program} {w : World} {K : PySem.W.Frag} {mg : Str → Option Value} {base : Heap} (T : Txt w K mg) (F : MDef K mg "Bits" "answer" "Bits.answer" s_Bits_answer) (c_wall : Cal P w K mg base "_wall" ["k"] 1 m_wall) :
    CalM P w K mg base "Bits" "answer" ["self", "head", "bits", "whole"] 2 m_Bits_answer :=
  calM_mk (k := 1) (own' := []) (N := ["self", "head", "bits", "whole"]) (b := b_Bits_answer) F sc_Bits_answer (by decide) (fun _ _ _ _ _ _ us hl => match us, hl with | [_, _, _, _], _ => rfl) fun f cdv A outer s H E hr =>
      (vs_one (vs_expr (VG.ve (vg_fn c_wall hr (takes_of rfl rfl rfl rfl) rfl (va_cons (VG.ve vg_int) va_nil) (len_cons len_nil)))))
/-! answer -/
abbrev s_Broad_answer : Stmt := inClass (topS 20) 0
theorem sc_Broad_answer : FnScope ["self", "head", "bits", "whole"] ["self", "head", "bits", "whole"] (defScope s_Broad_answer) := ⟨rfl, rfl, rfl, by decide +kernel, rfl, by decide +kernel, by decide +kernel⟩
noncomputable def b_Broad_answer : Vs.Env → Sr := (exprS (callF m_wall (consA (cE (.int 3)) nilA)))
noncomputable def m_Broad_answer : List D → R D := runB 4 b_Broad_answer
theorem r_Broad_answer (x0 x1 x2 x3 : D) : m_Broad_answer [x0, x1, x2, x3] = bodyR (b_Broad_answer [some x0, some x1, some x2, some x3]) := rfl
theorem c_Broad_answer {P : Program} {w : World} {K : PySem.W.Frag} {mg : Str → Option Value} {base : Heap} (T : Txt w K mg) (F : MDef K mg "Broad" "answer" "Broad.answer" s_Broad_answer) (c_wall : Cal P w K mg base "_wall" ["k"] 1 m_wall) :
    CalM P w K mg base "Broad" "answer" ["self", "head", "bits", "whole"] 2 m_Broad_answer :=
  calM_mk (k := 1) (own' := []) (N := ["self", "head", "bits", "whole"]) (b := b_Broad_answer) F sc_Broad_answer (by decide) (fun _ _ _ _ _ _ us hl => match us, hl with | [_, _, _, _], _ => rfl) fun f cdv A outer s H E hr =>
      (vs_one (vs_expr (VG.ve (vg_fn c_wall hr (takes_of rfl rfl rfl rfl) rfl (va_cons (VG.ve vg_int) va_nil) (len_cons len_nil)))))
/-! __init__ -/
abbrev s_At_init : Stmt := inClass (topS 21) 0
theorem sc_At_init : FnScope ["self", "i", "j"] ["self", "i", "j"] (defScope s_At_init) := ⟨rfl, rfl, rfl, by decide +kernel, rfl, by decide +kernel, by decide +kernel⟩
noncomputable def b_At_init : Vs.Env → Sr := (seqS (fldS tbF 0 noP "i" (imm (varE 1)))
    (fldS tbF 0 noP "j" (imm (varE 2))))
noncomputable def m_At_init : List D → RX D := runL 3 3 [0] b_At_init
theorem r_At_init (x0 x1 x2 : D) : m_At_init [x0, x1, x2] = bodyB [0] 3 (b_At_init [some x0, some x1, some x2]) := rfl
theorem c_At_init {P : Program} {w : World} {K : PySem.W.Frag} {mg : Str → Option Value} {base : Heap} (T : Txt w K mg) (F : MDef K mg "At" "__init__" "At.__init__" s_At_init) (M : MkC K "At") :
    CalMk P w K mg base "At" ["self", "i", "j"] 1 m_At_init :=
  calMk_mk (k := 0) (own' := [0]) (N := ["self", "i", "j"]) (b := b_At_init) F M.mk sc_At_init (by decide) (fun _ _ _ _ _ _ us hl => match us, hl with | [_, _, _], _ => rfl) fun vs f cdv A outer s H E hr =>
      (vs_cons (vs_fld (i := 0) T.fld (vl_var 0 (pv 0)) (VE.vg (ve_var 1 (pv 1))))
      (vs_one (vs_fld (i := 0) T.fld (vl_var 0 (pv 0)) (VE.vg (ve_var 2 (pv 2))))))
/-! answer -/
abbrev s_At_answer : Stmt := inClass (topS 21) 1
theorem sc_At_answer : FnScope ["self", "head", "bits", "whole"] ["self", "head", "bits", "whole"] (defScope s_At_answer) := ⟨rfl, rfl, rfl, by decide +kernel, rfl, by decide +kernel, by decide +kernel⟩
noncomputable def b_At_answer : Vs.Env → Sr := (exprS (callF m_wall (consA (cE (.int 4)) nilA)))
noncomputable def m_At_answer : List D → R D := runB 4 b_At_answer
theorem r_At_answer (x0 x1 x2 x3 : D) : m_At_answer [x0, x1, x2, x3] = bodyR (b_At_answer [some x0, some x1, some x2, some x3]) := rfl
theorem c_At_answer {P : Program} {w : World} {K : PySem.W.Frag} {mg : Str → Option Value} {base : Heap} (T : Txt w K mg) (F : MDef K mg "At" "answer" "At.answer" s_At_answer) (c_wall : Cal P w K mg base "_wall" ["k"] 1 m_wall) :
    CalM P w K mg base "At" "answer" ["self", "head", "bits", "whole"] 2 m_At_answer :=
  calM_mk (k := 1) (own' := []) (N := ["self", "head", "bits", "whole"]) (b := b_At_answer) F sc_At_answer (by decide) (fun _ _ _ _ _ _ us hl => match us, hl with | [_, _, _, _], _ => rfl) fun f cdv A outer s H E hr =>
      (vs_one (vs_expr (VG.ve (vg_fn c_wall hr (takes_of rfl rfl rfl rfl) rfl (va_cons (VG.ve vg_int) va_nil) (len_cons len_nil)))))
/-! __init__ -/
abbrev s_Level_init : Stmt := inClass (topS 22) 0
theorem sc_Level_init : FnScope ["self", "k"] ["self", "k"] (defScope s_Level_init) := ⟨rfl, rfl, rfl, by decide +kernel, rfl, by decide +kernel, by decide +kernel⟩
noncomputable def b_Level_init : Vs.Env → Sr := (fldS tbF 0 noP "k" (imm (varE 1)))
noncomputable def m_Level_init : List D → RX D := runL 2 2 [0] b_Level_init
theorem r_Level_init (x0 x1 : D) : m_Level_init [x0, x1] = bodyB [0] 2 (b_Level_init [some x0, some x1]) := rfl
theorem c_Level_init {P : Program} {w : World} {K : PySem.W.Frag} {mg : Str → Option Value} {base : Heap} (T : Txt w K mg) (F : MDef K mg "Level" "__init__" "Level.__init__" s_Level_init) (M : MkC K "Level") :
    CalMk P w K mg base "Level" ["self", "k"] 1 m_Level_init :=
  calMk_mk (k := 0) (own' := [0]) (N := ["self", "k"]) (b := b_Level_init) F M.mk sc_Level_init (by decide) (fun _ _ _ _ _ _ us hl => match us, hl with | [_, _], _ => rfl) fun vs f cdv A outer s H E hr =>
      (vs_one (vs_fld (i := 0) T.fld (vl_var 0 (pv 0)) (VE.vg (ve_var 1 (pv 1)))))
/-! answer -/
abbrev s_Level_answer : Stmt := inClass (topS 22) 1
theorem sc_Level_answer : FnScope ["self", "head", "bits", "whole"] ["self", "head", "bits", "whole"] (defScope s_Level_answer) := ⟨rfl, rfl, rfl, by decide +kernel, rfl, by decide +kernel, by decide +kernel⟩
noncomputable def b_Level_answer : Vs.Env → Sr := (exprS (callF m_wall (consA (cE (.int 5)) nilA)))
noncomputable def m_Level_answer : List D → R D := runB 4 b_Level_answer
theorem r_Level_answer (x0 x1 x2 x3 : D) : m_Level_answer [x0, x1, x2, x3] = bodyR (b_Level_answer [some x0, some x1, some x2, some x3]) := rfl
theorem c_Level_answer {P : Program} {w : World} {K : PySem.W.Frag} {mg : Str → Option Value} {base : Heap} (T : Txt w K mg) (F : MDef K mg "Level" "answer" "Level.answer" s_Level_answer) (c_wall : Cal P w K mg base "_wall" ["k"] 1 m_wall) :
    CalM P w K mg base "Level" "answer" ["self", "head", "bits", "whole"] 2 m_Level_answer :=
  calM_mk (k := 1) (own' := []) (N := ["self", "head", "bits", "whole"]) (b := b_Level_answer) F sc_Level_answer (by decide) (fun _ _ _ _ _ _ us hl => match us, hl with | [_, _, _, _], _ => rfl) fun f cdv A outer s H E hr =>
      (vs_one (vs_expr (VG.ve (vg_fn c_wall hr (takes_of rfl rfl rfl rfl) rfl (va_cons (VG.ve vg_int) va_nil) (len_cons len_nil)))))
/-! __init__ -/
abbrev s_Piece_init : Stmt := inClass (topS 23) 0
theorem sc_Piece_init : FnScope ["self", "top", "left", "high", "wide"] ["self", "top", "left", "high", "wide"] (defScope s_Piece_init) := ⟨rfl, rfl, rfl, by decide +kernel, rfl, by decide +kernel, by decide +kernel⟩
noncomputable def b_Piece_init : Vs.Env → Sr := (seqS (fldS tbF 0 noP "top" (imm (varE 1)))
    (seqS (fldS tbF 0 noP "left" (imm (varE 2)))
    (seqS (fldS tbF 0 noP "high" (imm (varE 3)))
    (fldS tbF 0 noP "wide" (imm (varE 4))))))
noncomputable def m_Piece_init : List D → RX D := runL 5 5 [0] b_Piece_init
theorem r_Piece_init (x0 x1 x2 x3 x4 : D) : m_Piece_init [x0, x1, x2, x3, x4] = bodyB [0] 5 (b_Piece_init [some x0, some x1, some x2, some x3, some x4]) := rfl
theorem c_Piece_init {P : Program} {w : World} {K : PySem.W.Frag} {mg : Str → Option Value} {base : Heap} (T : Txt w K mg) (F : MDef K mg "Piece" "__init__" "Piece.__init__" s_Piece_init) (M : MkC K "Piece") :
    CalMk P w K mg base "Piece" ["self", "top", "left", "high", "wide"] 1 m_Piece_init :=
  calMk_mk (k := 0) (own' := [0]) (N := ["self", "top", "left", "high", "wide"]) (b := b_Piece_init) F M.mk sc_Piece_init (by decide) (fun _ _ _ _ _ _ us hl => match us, hl with | [_, _, _, _, _], _ => rfl) fun vs f cdv A outer s H E hr =>
      (vs_cons (vs_fld (i := 0) T.fld (vl_var 0 (pv 0)) (VE.vg (ve_var 1 (pv 1))))
      (vs_cons (vs_fld (i := 0) T.fld (vl_var 0 (pv 0)) (VE.vg (ve_var 2 (pv 2))))
      (vs_cons (vs_fld (i := 0) T.fld (vl_var 0 (pv 0)) (VE.vg (ve_var 3 (pv 3))))
      (vs_one (vs_fld (i := 0) T.fld (vl_var 0 (pv 0)) (VE.vg (ve_var 4 (pv 4))))))))
/-! answer -/
abbrev s_Piece_answer : Stmt := inClass (topS 23) 1
theorem sc_Piece_answer : FnScope ["self", "head", "bits", "whole"] ["self", "head", "bits", "whole"] (defScope s_Piece_answer) := ⟨rfl, rfl, rfl, by decide +kernel, rfl, by decide +kernel, by decide +kernel⟩
noncomputable def b_Piece_answer : Vs.Env → Sr := (exprS (callF m_wall (consA (cE (.int 6)) nilA)))
noncomputable def m_Piece_answer : List D → R D := runB 4 b_Piece_answer
theorem r_Piece_answer (x0 x1 x2 x3 : D) : m_Piece_answer [x0, x1, x2, x3] = bodyR (b_Piece_answer [some x0, some x1, some x2, some x3]) := rfl
theorem c_Piece_answer {P : Program} {w : World} {K : PySem.W.Frag} {mg : Str → Option Value} {base : Heap} (T : Txt w K mg) (F : MDef K mg "Piece" "answer" "Piece.answer" s_Piece_answer) (c_wall : Cal P w K mg base "_wall" ["k"] 1 m_wall) :
    CalM P w K mg base "Piece" "answer" ["self", "head", "bits", "whole"] 2 m_Piece_answer :=
  calM_mk (k := 1) (own' := []) (N := ["self", "head", "bits", "whole"]) (b := b_Piece_answer) F sc_Piece_answer (by decide) (fun _ _ _ _ _ _ us hl => match us, hl with | [_, _, _, _], _ => rfl) fun f cdv A outer s H E hr =>
      (vs_one (vs_expr (VG.ve (vg_fn c_wall hr (takes_of rfl rfl rfl rfl) rfl (va_cons (VG.ve vg_int) va_nil) (len_cons len_nil)))))
/-! asked_number -/
abbrev s_asked_number : Stmt := topS 24
theorem sc_asked_number : FnScope ["word", "number"] ["word"] (defScope s_asked_number) := ⟨rfl, rfl, rfl, by decide +kernel, rfl, by decide +kernel, by decide +kernel⟩
noncomputable def b_asked_number : Vs.Env → Sr := (seqS (asgS 1 (negE (cE (.int 1))))
    (seqS (tryRS tb_NoText (asgS 1 (callF m_read_number (consA (varE 0) nilA))) "NoRow")
    (seqS (ifS (boolR (op2 ltD (varE 1) (cE (.int 0)))) (raiseS "NoRow") nilS)
    (retV 1))))
noncomputable def m_asked_number : List D → R D := runB 2 b_asked_number
theorem r_asked_number (x0 : D) : m_asked_number [x0] = bodyR (b_asked_number [some x0, none]) := rfl
theorem c_asked_number {P : Program} {w : World} {K : PySem.W.Frag} {mg : Str → Option Value} {base : Heap} (T : Txt w K mg) (F : Def K mg "asked_number" s_asked_number) (c_read_number : CalN P w K mg base "read_number" ["word"] 1 m_read_number) :
    Cal P w K mg base "asked_number" ["word"] 2 m_asked_number :=
  cal_mk (k := 1) (own' := []) (N := ["word", "number"]) (b := b_asked_number) F sc_asked_number (by decide) (fun _ _ _ _ _ _ us hl => match us, hl with | [_], _ => rfl) fun f cdv A outer s H E hr =>
      (vs_cons (vs_set 1 sc_asked_number.nd rfl (by first | exact Or.inl rfl | exact Or.inr rfl) (vg_neg (VG.ve vg_int)))
      (vs_cons (vs_tryR (oe := [1]) (own1 := [1, 1]) (own' := [1, 1]) T.h_NoText T.x_NoRow rfl rfl rfl rfl (fun hd => L2H.passesAt_of rfl hd) (takes_of rfl rfl rfl rfl) (fun W pn xe tk po => (vs_one (vs_set 1 sc_asked_number.nd rfl (by first | exact Or.inl rfl | exact Or.inr rfl) (vg_fnN c_read_number hr tk rfl (va_cons (ve_var 0 (pv 0)) va_nil) (len_cons len_nil))))))
      (vs_cons (vs_if (own' := [1, 1]) (vt_cmp op_lt d_lt nx_lt (ve_var 1 (pv 1)) (VG.ve vg_int) (nomark _)) (vs_one (vs_raiseX T.x_NoRow rfl (takes_of rfl rfl rfl rfl) rfl)) vs_nil)
      (vs_one (vs_retV 1 (pv 1))))))
/-! question -/
abbrev s_question : Stmt := topS 25
theorem sc_question : FnScope ["row", "words", "numbers", "word"] ["row"] (defScope s_question) := ⟨rfl, rfl, rfl, by decide +kernel, rfl, by decide +kernel, by decide +kernel⟩
noncomputable def b_question : Vs.Env → Sr := (seqS (asgS 1 (m1E splitG (varE 0) (cE (.str " "))))
    (seqS (asgS 2 (lcXE [3] (itV itemsR (slG (varE 1) (someO (cE (.int 1))) noO)) (tgN 3) (callF m_asked_number (consA (varE 3) nilA))))
    (seqS (ifS (boolR (op2 eqD (varE 0) (cE (.str "size")))) (retS (makeO "Size")) nilS)
    (seqS (ifS (boolR (op2 eqD (varE 0) (cE (.str "bits")))) (retS (makeO "Bits")) nilS)
    (seqS (ifS (boolR (op2 eqD (varE 0) (cE (.str "broad")))) (retS (makeO "Broad")) nilS)
    (seqS (ifS (boolR (op2 eqD (varE 0) (cE (.str "all")))) (retS (makeO "All")) nilS)
    (seqS (ifS (andT (boolR (op2 eqD (op2 ixD (varE 1) (cE (.int 0))) (cE (.str "at")))) (boolR (op2 eqD (callB lenD (consA (varE 2) nilA)) (cE (.int 2))))) (retS (makeF "At" 3 m_At_init (consA (op2 ixD (varE 2) (cE (.int 0))) (consA (op2 ixD (varE 2) (cE (.int 1))) nilA)))) nilS)
    (seqS (ifS (andT (boolR (op2 eqD (op2 ixD (varE 1) (cE (.int 0))) (cE (.str "level")))) (boolR (op2 eqD (callB lenD (consA (varE 2) nilA)) (cE (.int 1))))) (retS (makeF "Level" 2 m_Level_init (consA (op2 ixD (varE 2) (cE (.int 0))) nilA))) nilS)
    (seqS (ifS (andT (boolR (op2 eqD (op2 ixD (varE 1) (cE (.int 0))) (cE (.str "piece")))) (boolR (op2 eqD (callB lenD (consA (varE 2) nilA)) (cE (.int 4))))) (retS (makeF "Piece" 5 m_Piece_init (consA (op2 ixD (varE 2) (cE (.int 0))) (consA (op2 ixD (varE 2) (cE (.int 1))) (consA (op2 ixD (varE 2) (cE (.int 2))) (consA (op2 ixD (varE 2) (cE (.int 3))) nilA)))))) nilS)
    (raiseS "NoRow"))))))))))
noncomputable def m_question : List D → R D := runB 4 b_question
theorem r_question (x0 : D) : m_question [x0] = bodyR (b_question [some x0, none, none, none]) := rfl
theorem c_question {P : Program} {w : World} {K : PySem.W.Frag} {mg : Str → Option Value} {base : Heap} (T : Txt w K mg) (F : Def K mg "question" s_question) (c_asked_number : Cal P w K mg base "asked_number" ["word"] 2 m_asked_number) (c_At_init : CalMk P w K mg base "At" ["self", "i", "j"] 1 m_At_init) (c_Level_init : CalMk P w K mg base "Level" ["self", "k"] 1 m_Level_init) (c_Piece_init : CalMk P w K mg base "Piece" ["self", "top", "left", "high", "wide"] 1 m_Piece_init) :
    Cal P w K mg base "question" ["row"] 3 m_question :=
  cal_mk (k := 2) (own' := []) (N := ["row", "words", "numbers", "word"]) (b := b_question) F sc_question (by decide) (fun _ _ _ _ _ _ us hl => match us, hl with | [_], _ => rfl) fun f cdv A outer s H E hr =>
      (vs_cons (vs_set 1 sc_question.nd rfl (by first | exact Or.inl rfl | exact Or.inr rfl) (vg_m1 PySem.F.slot_str_split PySem.F.type_str_split mt_split md_split mn_split (ve_var 0 (pv 0)) (VG.ve vg_str)))
      (vs_cons (vs_setLcX 2 (hst := rfl) (hf := rfl) (tkx := (takes_of rfl rfl rfl rfl)) (hsw := (sw_true rfl rfl rfl (by decide +kernel))) (hy := rfl) (hyl := rfl) (hc := rfl) (hN := sc_question.nd) (own := [("word", 3)]) (vi_seq (VG.vp (vg_sl (ve_var 1 (pv 1)) (vo_some (VG.ve vg_int)) vo_none))) (blkOk_by (by kernel_rfl)) (tk_name 3) (fun _ _ _ _ _ _ => (pg_name (i := 3) sc_question.nd rfl (by first | exact Or.inl rfl | exact Or.inr rfl))) (fun _ _ _ _ _ _ _ pb => (vg_fnP c_asked_number hr pb rfl (va_cons (ve_var 3 (pv 3)) va_nil) (len_cons len_nil))))
      (vs_cons (vs_if (own' := [2, 1]) (vt_cmp (op_eqD hr.units) d_eq nx_eq (ve_var 0 (pv 0)) (VG.ve vg_str) (nomark _)) (vs_one (vs_ret (vg_makeO T.mo_Size rfl))) vs_nil)
      (vs_cons (vs_if (own' := [2, 1]) (vt_cmp (op_eqD hr.units) d_eq nx_eq (ve_var 0 (pv 0)) (VG.ve vg_str) (nomark _)) (vs_one (vs_ret (vg_makeO T.mo_Bits rfl))) vs_nil)
      (vs_cons (vs_if (own' := [2, 1]) (vt_cmp (op_eqD hr.units) d_eq nx_eq (ve_var 0 (pv 0)) (VG.ve vg_str) (nomark _)) (vs_one (vs_ret (vg_makeO T.mo_Broad rfl))) vs_nil)
      (vs_cons (vs_if (own' := [2, 1]) (vt_cmp (op_eqD hr.units) d_eq nx_eq (ve_var 0 (pv 0)) (VG.ve vg_str) (nomark _)) (vs_one (vs_ret (vg_makeO T.mo_All rfl))) vs_nil)
      (vs_cons (vs_if (own' := [2, 1]) (VW.vt (vw_and (vt_cmp (op_eqD hr.units) d_eq nx_eq (ve_ix (ve_var 1 (pv 1)) (VG.ve vg_int) (fun _ _ => rfl)) (VG.ve vg_str) (nomark _)) (vw_and1 (vt_cmp (op_eqD hr.units) d_eq nx_eq (VG.ve (vg_callB call_len cb_len nx_len rfl T.b_len PySem.boot_len (va_cons (ve_var 2 (pv 2)) va_nil))) (VG.ve vg_int) (nomark _))))) (vs_one (vs_ret (vg_make c_At_init hr (takes_of rfl rfl rfl rfl) rfl (va_cons (ve_ix (ve_var 2 (pv 2)) (VG.ve vg_int) (fun _ _ => rfl)) (va_cons (ve_ix (ve_var 2 (pv 2)) (VG.ve vg_int) (fun _ _ => rfl)) va_nil))))) vs_nil)
      (vs_cons (vs_if (own' := [2, 1]) (VW.vt (vw_and (vt_cmp (op_eqD hr.units) d_eq nx_eq (ve_ix (ve_var 1 (pv 1)) (VG.ve vg_int) (fun _ _ => rfl)) (VG.ve vg_str) (nomark _)) (vw_and1 (vt_cmp (op_eqD hr.units) d_eq nx_eq (VG.ve (vg_callB call_len cb_len nx_len rfl T.b_len PySem.boot_len (va_cons (ve_var 2 (pv 2)) va_nil))) (VG.ve vg_int) (nomark _))))) (vs_one (vs_ret (vg_make c_Level_init hr (takes_of rfl rfl rfl rfl) rfl (va_cons (ve_ix (ve_var 2 (pv 2)) (VG.ve vg_int) (fun _ _ => rfl)) va_nil)))) vs_nil)
      (vs_cons (vs_if (own' := [2, 1]) (VW.vt (vw_and (vt_cmp (op_eqD hr.units) d_eq nx_eq (ve_ix (ve_var 1 (pv 1)) (VG.ve vg_int) (fun _ _ => rfl)) (VG.ve vg_str) (nomark _)) (vw_and1 (vt_cmp (op_eqD hr.units) d_eq nx_eq (VG.ve (vg_callB call_len cb_len nx_len rfl T.b_len PySem.boot_len (va_cons (ve_var 2 (pv 2)) va_nil))) (VG.ve vg_int) (nomark _))))) (vs_one (vs_ret (vg_make c_Piece_init hr (takes_of rfl rfl rfl rfl) rfl (va_cons (ve_ix (ve_var 2 (pv 2)) (VG.ve vg_int) (fun _ _ => rfl)) (va_cons (ve_ix (ve_var 2 (pv 2)) (VG.ve vg_int) (fun _ _ => rfl)) (va_cons (ve_ix (ve_var 2 (pv 2)) (VG.ve vg_int) (fun _ _ => rfl)) (va_cons (ve_ix (ve_var 2 (pv 2)) (VG.ve vg_int) (fun _ _ => rfl)) va_nil))))))) vs_nil)
      (vs_one (vs_raiseX T.x_NoRow rfl (takes_of rfl rfl rfl rfl) rfl)))))))))))
/-! _law_cell_at -/
abbrev s_law_cell_at : Stmt := topS 27
theorem sc_law_cell_at : FnScope ["_law_script", "_law_k"] ["_law_script", "_law_k"] (defScope s_law_cell_at) := ⟨rfl, rfl, rfl, by decide +kernel, rfl, by decide +kernel, by decide +kernel⟩
noncomputable def b_law_cell_at : Vs.Env → Sr := (seqS (ifS (boolR (op2 ltD (varE 1) (callB lenD (consA (varE 0) nilA)))) (retS (imm (op2 ixD (varE 0) (varE 1)))) nilS)
    (retS (cE (.int 0))))
noncomputable def m_law_cell_at : List D → R D := runB 2 b_law_cell_at
theorem r_law_cell_at (x0 x1 : D) : m_law_cell_at [x0, x1] = bodyR (b_law_cell_at [some x0, some x1]) := rfl
theorem c_law_cell_at {P : Program} {w : World} {K : PySem.W.Frag} {mg : Str → Option Value} {base : Heap} (T : Txt w K mg) (F : Def K mg "_law_cell_at" s_law_cell_at) :
    Cal P w K mg base "_law_cell_at" ["_law_script", "_law_k"] 1 m_law_cell_at :=
  cal_mk (k := 0) (own' := []) (N := ["_law_script", "_law_k"]) (b := b_law_cell_at) F sc_law_cell_at (by decide) (fun _ _ _ _ _ _ us hl => match us, hl with | [_, _], _ => rfl) fun f cdv A outer s H E hr =>
      (vs_cons (vs_if (own' := []) (vt_cmp op_lt d_lt nx_lt (ve_var 1 (pv 1)) (VG.ve (vg_callB call_len cb_len nx_len rfl T.b_len PySem.boot_len (va_cons (ve_var 0 (pv 0)) va_nil))) (nomark _)) (vs_one (vs_ret (VE.vg (ve_ix (ve_var 0 (pv 0)) (ve_var 1 (pv 1)) (fun _ _ => rfl))))) vs_nil)
      (vs_one (vs_ret vg_int)))
/-! _law_words -/
abbrev s_law_words : Stmt := topS 28
theorem sc_law_words : FnScope ["_law_kind"] ["_law_kind"] (defScope s_law_words) := ⟨rfl, rfl, rfl, by decide +kernel, rfl, by decide +kernel, by decide +kernel⟩
noncomputable def b_law_words : Vs.Env → Sr := (retS (op2 ownIx (lstE (consA (lstE (consA (cE (.str "size")) nilA)) (consA (lstE (consA (cE (.str "bits")) nilA)) (consA (lstE (consA (cE (.str "broad")) nilA)) (consA (lstE (consA (cE (.str "all")) nilA)) (consA (lstE (consA (cE (.str "at")) (consA (cE (.str "")) (consA (cE (.str "")) nilA)))) (consA (lstE (consA (cE (.str "level")) (consA (cE (.str "")) nilA))) (consA (lstE (consA (cE (.str "piece")) (consA (cE (.str "")) (consA (cE (.str "")) (consA (cE (.str "")) (consA (cE (.str "")) nilA)))))) nilA)))))))) (varE 0)))
noncomputable def m_law_words : List D → R D := runB 1 b_law_words
theorem r_law_words (x0 : D) : m_law_words [x0] = bodyR (b_law_words [some x0]) := rfl
theorem c_law_words {P : Program} {w : World} {K : PySem.W.Frag} {mg : Str → Option Value} {base : Heap} (T : Txt w K mg) (F : Def K mg "_law_words" s_law_words) :
    Cal P w K mg base "_law_words" ["_law_kind"] 1 m_law_words :=
  cal_mk (k := 0) (own' := []) (N := ["_law_kind"]) (b := b_law_words) F sc_law_words (by decide) (fun _ _ _ _ _ _ us hl => match us, hl with | [_], _ => rfl) fun f cdv A outer s H E hr =>
      (vs_one (vs_ret (vg_ixG (vg_lst (vb_cons (vg_lst (vb_cons vg_str vb_nil) (len_cons len_nil)) (vb_cons (vg_lst (vb_cons vg_str vb_nil) (len_cons len_nil)) (vb_cons (vg_lst (vb_cons vg_str vb_nil) (len_cons len_nil)) (vb_cons (vg_lst (vb_cons vg_str vb_nil) (len_cons len_nil)) (vb_cons (vg_lst (vb_cons vg_str (vb_cons vg_str (vb_cons vg_str vb_nil))) (len_cons (len_cons (len_cons len_nil)))) (vb_cons (vg_lst (vb_cons vg_str (vb_cons vg_str vb_nil)) (len_cons (len_cons len_nil))) (vb_cons (vg_lst (vb_cons vg_str (vb_cons vg_str (vb_cons vg_str (vb_cons vg_str (vb_cons vg_str vb_nil))))) (len_cons (len_cons (len_cons (len_cons (len_cons len_nil)))))) vb_nil))))))) (len_cons (len_cons (len_cons (len_cons (len_cons (len_cons (len_cons len_nil)))))))) (ve_var 0 (pv 0)) (fun _ _ => rfl))))
/-! _law_is_kind -/
abbrev s_law_is_kind : Stmt := topS 29
theorem sc_law_is_kind : FnScope ["_law_found", "_law_kind"] ["_law_found", "_law_kind"] (defScope s_law_is_kind) := ⟨rfl, rfl, rfl, by decide +kernel, rfl, by decide +kernel, by decide +kernel⟩
noncomputable def b_law_is_kind : Vs.Env → Sr := (seqS (ifS (boolR (op2 eqD (varE 1) (cE (.int 0)))) (retS (isOE tbO "Size" (varE 0))) nilS)
    (seqS (ifS (boolR (op2 eqD (varE 1) (cE (.int 1)))) (retS (isOE tbO "Bits" (varE 0))) nilS)
    (seqS (ifS (boolR (op2 eqD (varE 1) (cE (.int 2)))) (retS (isOE tbO "Broad" (varE 0))) nilS)
    (seqS (ifS (boolR (op2 eqD (varE 1) (cE (.int 3)))) (retS (isOE tbO "All" (varE 0))) nilS)
    (seqS (ifS (boolR (op2 eqD (varE 1) (cE (.int 4)))) (retS (isOE tbO "At" (varE 0))) nilS)
    (seqS (ifS (boolR (op2 eqD (varE 1) (cE (.int 5)))) (retS (isOE tbO "Level" (varE 0))) nilS)
    (retS (isOE tbO "Piece" (varE 0)))))))))
noncomputable def m_law_is_kind : List D → R D := runB 2 b_law_is_kind
theorem r_law_is_kind (x0 x1 : D) : m_law_is_kind [x0, x1] = bodyR (b_law_is_kind [some x0, some x1]) := rfl
theorem c_law_is_kind {P : Program} {w : World} {K : PySem.W.Frag} {mg : Str → Option Value} {base : Heap} (T : Txt w K mg) (F : Def K mg "_law_is_kind" s_law_is_kind) :
    Cal P w K mg base "_law_is_kind" ["_law_found", "_law_kind"] 1 m_law_is_kind :=
  cal_mk (k := 0) (own' := []) (N := ["_law_found", "_law_kind"]) (b := b_law_is_kind) F sc_law_is_kind (by decide) (fun _ _ _ _ _ _ us hl => match us, hl with | [_, _], _ => rfl) fun f cdv A outer s H E hr =>
      (vs_cons (vs_if (own' := []) (vt_cmp (op_eqD hr.units) d_eq nx_eq (ve_var 1 (pv 1)) (VG.ve vg_int) (nomark _)) (vs_one (vs_ret (vg_isOE T.iso_tab rfl T.b_isinstance (ve_var 0 (pv 0)) rfl T.cl_Size))) vs_nil)
      (vs_cons (vs_if (own' := []) (vt_cmp (op_eqD hr.units) d_eq nx_eq (ve_var 1 (pv 1)) (VG.ve vg_int) (nomark _)) (vs_one (vs_ret (vg_isOE T.iso_tab rfl T.b_isinstance (ve_var 0 (pv 0)) rfl T.cl_Bits))) vs_nil)
      (vs_cons (vs_if (own' := []) (vt_cmp (op_eqD hr.units) d_eq nx_eq (ve_var 1 (pv 1)) (VG.ve vg_int) (nomark _)) (vs_one (vs_ret (vg_isOE T.iso_tab rfl T.b_isinstance (ve_var 0 (pv 0)) rfl T.cl_Broad))) vs_nil)
      (vs_cons (vs_if (own' := []) (vt_cmp (op_eqD hr.units) d_eq nx_eq (ve_var 1 (pv 1)) (VG.ve vg_int) (nomark _)) (vs_one (vs_ret (vg_isOE T.iso_tab rfl T.b_isinstance (ve_var 0 (pv 0)) rfl T.cl_All))) vs_nil)
      (vs_cons (vs_if (own' := []) (vt_cmp (op_eqD hr.units) d_eq nx_eq (ve_var 1 (pv 1)) (VG.ve vg_int) (nomark _)) (vs_one (vs_ret (vg_isOE T.iso_tab rfl T.b_isinstance (ve_var 0 (pv 0)) rfl T.cl_At))) vs_nil)
      (vs_cons (vs_if (own' := []) (vt_cmp (op_eqD hr.units) d_eq nx_eq (ve_var 1 (pv 1)) (VG.ve vg_int) (nomark _)) (vs_one (vs_ret (vg_isOE T.iso_tab rfl T.b_isinstance (ve_var 0 (pv 0)) rfl T.cl_Level))) vs_nil)
      (vs_one (vs_ret (vg_isOE T.iso_tab rfl T.b_isinstance (ve_var 0 (pv 0)) rfl T.cl_Piece)))))))))
/-! _law_right -/
abbrev s_law_right : Stmt := topS 30
theorem sc_law_right : FnScope ["_law_row", "_law_kind", "_law_found", "_law_k"] ["_law_row", "_law_kind"] (defScope s_law_right) := ⟨rfl, rfl, rfl, by decide +kernel, rfl, by decide +kernel, by decide +kernel⟩
noncomputable def b_law_right : Vs.Env → Sr := (seqS (asgS 2 (callF m_question (consA (varE 0) nilA)))
    (seqS (ifS (notT (boolR (isOE tbO "Question" (varE 2)))) (retS (cE (.bl false))) nilS)
    (seqS (forS (itR rng1 (consA (cE (.int 7)) nilA)) (tgN 3) (ifS (boolR (op2 neD (callF m_law_is_kind (consA (varE 2) (consA (varE 3) nilA))) (op2 eqD (varE 3) (varE 1)))) (retS (cE (.bl false))) nilS))
    (retS (cE (.bl true))))))
noncomputable def m_law_right : List D → R D := runB 4 b_law_right
theorem r_law_right (x0 x1 : D) : m_law_right [x0, x1] = bodyR (b_law_right [some x0, some x1, none, none]) := rfl
theorem c_law_right {P : Program} {w : World} {K : PySem.W.Frag} {mg : Str → Option Value} {base : Heap} (T : Txt w K mg) (F : Def K mg "_law_right" s_law_right) (c_question : Cal P w K mg base "question" ["row"] 3 m_question) (c_law_is_kind : Cal P w K mg base "_law_is_kind" ["_law_found", "_law_kind"] 1 m_law_is_kind) :
    Cal P w K mg base "_law_right" ["_law_row", "_law_kind"] 4 m_law_right :=
  cal_mk (k := 3) (own' := []) (N := ["_law_row", "_law_kind", "_law_found", "_law_k"]) (b := b_law_right) F sc_law_right (by decide) (fun _ _ _ _ _ _ us hl => match us, hl with | [_, _], _ => rfl) fun f cdv A outer s H E hr =>
      (vs_cons (vs_set 2 sc_law_right.nd rfl (by first | exact Or.inl rfl | exact Or.inr rfl) (vg_fn c_question hr (takes_of rfl rfl rfl rfl) rfl (va_cons (ve_var 0 (pv 0)) va_nil) (len_cons len_nil)))
      (vs_cons (vs_if (own' := [2]) (vt_not (vt_val (VG.ve (vg_isOE T.iso_tab rfl T.b_isinstance (ve_var 2 (pv 2)) rfl T.cl_Question)))) (vs_one (vs_ret vg_bl)) vs_nil)
      (vs_cons (vs_for (own := [2]) (passes_of rfl) rfl (vi_rng1 rfl T.b_range (va_cons (VG.ve vg_int) va_nil)) ⟨_, (pg_name (i := 3) sc_law_right.nd rfl (by first | exact Or.inl rfl | exact Or.inr rfl)), (tk_name 3)⟩ (vs_one (vs_if (own' := [2]) (vt_cmp (op_neD hr.units) d_ne nx_ne (VG.ve (vg_fn c_law_is_kind hr (takes_of rfl rfl rfl rfl) rfl (va_cons (ve_var 2 (pv 2)) (va_cons (ve_var 3 (pv 3)) va_nil)) (len_cons (len_cons len_nil)))) (VG.ve (vg_cmp (op_eqD hr.units) d_eq nx_eq (ve_var 3 (pv 3)) (ve_var 1 (pv 1)) (nomark _))) (nomark _)) (vs_one (vs_ret vg_bl)) vs_nil)))
      (vs_one (vs_ret vg_bl)))))
/-! _law_number -/
abbrev s_law_number : Stmt := topS 31
theorem sc_law_number : FnScope ["_law_cell"] ["_law_cell"] (defScope s_law_number) := ⟨rfl, rfl, rfl, by decide +kernel, rfl, by decide +kernel, by decide +kernel⟩
noncomputable def b_law_number : Vs.Env → Sr := (seqS (ifS (boolR (op2 eqD (op2 modD (varE 0) (cE (.int 4))) (cE (.int 0)))) (retS (callB strD (consA (op2 modD (op2 fdivD (varE 0) (cE (.int 4))) (cE (.int 10000))) nilA))) nilS)
    (retS (callB strD (consA (op2 modD (op2 fdivD (varE 0) (cE (.int 4))) (cE (.int 70))) nilA))))
noncomputable def m_law_number : List D → R D := runB 1 b_law_number
theorem r_law_number (x0 : D) : m_law_number [x0] = bodyR (b_law_number [some x0]) := rfl
theorem c_law_number {P : Program} {w : World} {K : PySem.W.Frag} {mg : Str → Option Value} {base : Heap} (T : Txt w K mg) (F : Def K mg "_law_number" s_law_number) :
    Cal P w K mg base "_law_number" ["_law_cell"] 1 m_law_number :=
  cal_mk (k := 0) (own' := []) (N := ["_law_cell"]) (b := b_law_number) F sc_law_number (by decide) (fun _ _ _ _ _ _ us hl => match us, hl with | [_], _ => rfl) fun f cdv A outer s H E hr =>
      (vs_cons (vs_if (own' := []) (vt_cmp (op_eqD hr.units) d_eq nx_eq (VG.ve (vg_op op_mod d_mod nx_mod (ve_var 0 (pv 0)) (VG.ve vg_int))) (VG.ve vg_int) (nomark _)) (vs_one (vs_ret (vg_callTy call_str_int cb_str nx_str rfl T.b_str (by decide +kernel) (va_cons (VG.ve (vg_op op_mod d_mod nx_mod (VG.ve (vg_op op_fdivW d_fdiv nx_fdiv (ve_var 0 (pv 0)) (VG.ve vg_int))) (VG.ve vg_int))) va_nil)))) vs_nil)
      (vs_one (vs_ret (vg_callTy call_str_int cb_str nx_str rfl T.b_str (by decide +kernel) (va_cons (VG.ve (vg_op op_mod d_mod nx_mod (VG.ve (vg_op op_fdivW d_fdiv nx_fdiv (ve_var 0 (pv 0)) (VG.ve vg_int))) (VG.ve vg_int))) va_nil)))))
/-! _law_odd_number -/
abbrev s_law_odd_number : Stmt := topS 32
theorem sc_law_odd_number : FnScope ["_law_cell", "_law_some"] ["_law_cell"] (defScope s_law_odd_number) := ⟨rfl, rfl, rfl, by decide +kernel, rfl, by decide +kernel, by decide +kernel⟩
noncomputable def b_law_odd_number : Vs.Env → Sr := (seqS (asgS 1 (lstE (consA (cE (.str "-1")) (consA (cE (.str "-0")) (consA (cE (.str "01")) (consA (cE (.str "+1")) (consA (cE (.str "1.0")) (consA (cE (.str "00")) (consA (cE (.str "12345")) (consA (cE (.str "a")) (consA (cE (.str "1-")) (consA (cE (.str "-")) (consA (cE (.str "007")) (consA (cE (.str "1,1")) (consA (cE (.str "-12")) (consA (cE (.str "--1")) (consA (cE (.str "x9")) nilA)))))))))))))))))
    (retS (imm (op2 ixD (varE 1) (op2 modD (varE 0) (callB lenD (consA (varE 1) nilA)))))))
noncomputable def m_law_odd_number : List D → R D := runB 2 b_law_odd_number
theorem r_law_odd_number (x0 : D) : m_law_odd_number [x0] = bodyR (b_law_odd_number [some x0, none]) := rfl
theorem c_law_odd_number {P : Program} {w : World} {K : PySem.W.Frag} {mg : Str → Option Value} {base : Heap} (T : Txt w K mg) (F : Def K mg "_law_odd_number" s_law_odd_number) :
    Cal P w K mg base "_law_odd_number" ["_law_cell"] 1 m_law_odd_number :=
  cal_mk (k := 0) (own' := []) (N := ["_law_cell", "_law_some"]) (b := b_law_odd_number) F sc_law_odd_number (by decide) (fun _ _ _ _ _ _ us hl => match us, hl with | [_], _ => rfl) fun f cdv A outer s H E hr =>
      (vs_cons (vs_set 1 sc_law_odd_number.nd rfl (by first | exact Or.inl rfl | exact Or.inr rfl) (vg_lst (vb_cons vg_str (vb_cons vg_str (vb_cons vg_str (vb_cons vg_str (vb_cons vg_str (vb_cons vg_str (vb_cons vg_str (vb_cons vg_str (vb_cons vg_str (vb_cons vg_str (vb_cons vg_str (vb_cons vg_str (vb_cons vg_str (vb_cons vg_str (vb_cons vg_str vb_nil))))))))))))))) (len_cons (len_cons (len_cons (len_cons (len_cons (len_cons (len_cons (len_cons (len_cons (len_cons (len_cons (len_cons (len_cons (len_cons (len_cons len_nil)))))))))))))))))
      (vs_one (vs_ret (VE.vg (ve_ix (ve_var 1 (pv 1)) (VG.ve (vg_op op_mod d_mod nx_mod (ve_var 0 (pv 0)) (VG.ve (vg_callB call_len cb_len nx_len rfl T.b_len PySem.boot_len (va_cons (ve_var 1 (pv 1)) va_nil))))) (fun _ _ => rfl))))))
/-! _law_odd_row -/
abbrev s_law_odd_row : Stmt := topS 33
theorem sc_law_odd_row : FnScope ["_law_cell", "_law_some"] ["_law_cell"] (defScope s_law_odd_row) := ⟨rfl, rfl, rfl, by decide +kernel, rfl, by decide +kernel, by decide +kernel⟩
noncomputable def b_law_odd_row : Vs.Env → Sr := (seqS (asgS 1 (lstE (consA (cE (.str "")) (consA (cE (.str " ")) (consA (cE (.str "at")) (consA (cE (.str "level")) (consA (cE (.str "piece")) (consA (cE (.str "piece 0 0 1")) (consA (cE (.str "at 0")) (consA (cE (.str "at 0 0 0")) (consA (cE (.str "level 0 0")) (consA (cE (.str "size 1")) (consA (cE (.str "all 0")) nilA)))))))))))))
    (seqS (asgS 1 (op2 addD (varE 1) (lstE (consA (cE (.str "Size")) (consA (cE (.str "ALL")) (consA (cE (.str "bit")) (consA (cE (.str "bitss")) (consA (cE (.str "broad 2")) (consA (cE (.str "0")) (consA (cE (.str "0 0")) (consA (cE (.str "at0 0")) (consA (cE (.str "at 0,0")) (consA (cE (.str "wide")) (consA (cE (.str "piece 0 0 1 1 1")) nilA))))))))))))))
    (retS (imm (op2 ixD (varE 1) (op2 modD (varE 0) (callB lenD (consA (varE 1) nilA))))))))
noncomputable def m_law_odd_row : List D → R D := runB 2 b_law_odd_row
theorem r_law_odd_row (x0 : D) : m_law_odd_row [x0] = bodyR (b_law_odd_row [some x0, none]) := rfl
theorem c_law_odd_row {P : Program} {w : World} {K : PySem.W.Frag} {mg : Str → Option Value} {base : Heap} (T : Txt w K mg) (F : Def K mg "_law_odd_row" s_law_odd_row) :
    Cal P w K mg base "_law_odd_row" ["_law_cell"] 1 m_law_odd_row :=
  cal_mk (k := 0) (own' := []) (N := ["_law_cell", "_law_some"]) (b := b_law_odd_row) F sc_law_odd_row (by decide) (fun _ _ _ _ _ _ us hl => match us, hl with | [_], _ => rfl) fun f cdv A outer s H E hr =>
      (vs_cons (vs_set 1 sc_law_odd_row.nd rfl (by first | exact Or.inl rfl | exact Or.inr rfl) (vg_lst (vb_cons vg_str (vb_cons vg_str (vb_cons vg_str (vb_cons vg_str (vb_cons vg_str (vb_cons vg_str (vb_cons vg_str (vb_cons vg_str (vb_cons vg_str (vb_cons vg_str (vb_cons vg_str vb_nil))))))))))) (len_cons (len_cons (len_cons (len_cons (len_cons (len_cons (len_cons (len_cons (len_cons (len_cons (len_cons len_nil)))))))))))))
      (vs_cons (vs_set 1 sc_law_odd_row.nd rfl (by first | exact Or.inl rfl | exact Or.inr rfl) (vg_op op_addA d_add nx_add (ve_var 1 (pv 1)) (VG.ve (vg_lst (vb_cons vg_str (vb_cons vg_str (vb_cons vg_str (vb_cons vg_str (vb_cons vg_str (vb_cons vg_str (vb_cons vg_str (vb_cons vg_str (vb_cons vg_str (vb_cons vg_str (vb_cons vg_str vb_nil))))))))))) (len_cons (len_cons (len_cons (len_cons (len_cons (len_cons (len_cons (len_cons (len_cons (len_cons (len_cons len_nil)))))))))))))))
      (vs_one (vs_ret (VE.vg (ve_ix (ve_var 1 (pv 1)) (VG.ve (vg_op op_mod d_mod nx_mod (ve_var 0 (pv 0)) (VG.ve (vg_callB call_len cb_len nx_len rfl T.b_len PySem.boot_len (va_cons (ve_var 1 (pv 1)) va_nil))))) (fun _ _ => rfl)))))))
/-! _law_spoiled -/
abbrev s_law_spoiled : Stmt := topS 34
theorem sc_law_spoiled : FnScope ["_law_words_here", "_law_way", "_law_cell"] ["_law_words_here", "_law_way", "_law_cell"] (defScope s_law_spoiled) := ⟨rfl, rfl, rfl, by decide +kernel, rfl, by decide +kernel, by decide +kernel⟩
noncomputable def b_law_spoiled : Vs.Env → Sr := (seqS (asgS 0 (callB listD (consA (varE 0) nilA)))
    (seqS (ifS (andT (boolR (op2 eqD (varE 1) (cE (.int 0)))) (boolR (op2 gtD (callB lenD (consA (varE 0) nilA)) (cE (.int 1))))) (setS 0 (op2 addD (cE (.int 1)) (op2 modD (varE 2) (op2 subD (callB lenD (consA (varE 0) nilA)) (cE (.int 1))))) (callF m_law_odd_number (consA (op2 fdivD (varE 2) (cE (.int 4))) nilA))) nilS)
    (seqS (ifS (orT (boolR (op2 eqD (varE 1) (cE (.int 1)))) (andT (boolR (op2 eqD (varE 1) (cE (.int 0)))) (boolR (op2 eqD (callB lenD (consA (varE 0) nilA)) (cE (.int 1)))))) (appS 0 (callF m_law_number (consA (varE 2) nilA))) nilS)
    (seqS (ifS (boolR (op2 eqD (varE 1) (cE (.int 2)))) (setS 0 (cE (.int 0)) (imm (op2 ixD (lstE (consA (op2 addD (cE (.str "x")) (op2 ixD (varE 0) (cE (.int 0)))) (consA (op2 addD (op2 ixD (varE 0) (cE (.int 0))) (cE (.str "s"))) (consA (m0E upperG (op2 ixD (varE 0) (cE (.int 0)))) (consA (slG (op2 ixD (varE 0) (cE (.int 0))) (someO (cE (.int 1))) noO) nilA))))) (op2 modD (varE 2) (cE (.int 4)))))) nilS)
    (seqS (ifS (boolR (op2 eqD (varE 1) (cE (.int 3)))) (insS 0 (op2 modD (varE 2) (op2 addD (callB lenD (consA (varE 0) nilA)) (cE (.int 1)))) (cE (.str ""))) nilS)
    (seqS (ifS (andT (boolR (op2 eqD (varE 1) (cE (.int 4)))) (boolR (op2 gtD (callB lenD (consA (varE 0) nilA)) (cE (.int 1))))) (popAtS 0 (op2 addD (cE (.int 1)) (op2 modD (varE 2) (op2 subD (callB lenD (consA (varE 0) nilA)) (cE (.int 1)))))) nilS)
    (seqS (ifS (orT (boolR (op2 eqD (varE 1) (cE (.int 5)))) (andT (boolR (op2 eqD (varE 1) (cE (.int 4)))) (boolR (op2 eqD (callB lenD (consA (varE 0) nilA)) (cE (.int 1)))))) (retS (callF m_law_odd_row (consA (varE 2) nilA))) nilS)
    (retS (m1E joinG (cE (.str " ")) (varE 0))))))))))
noncomputable def m_law_spoiled : List D → R D := runB 3 b_law_spoiled
theorem r_law_spoiled (x0 x1 x2 : D) : m_law_spoiled [x0, x1, x2] = bodyR (b_law_spoiled [some x0, some x1, some x2]) := rfl
theorem c_law_spoiled {P : Program} {w : World} {K : PySem.W.Frag} {mg : Str → Option Value} {base : Heap} (T : Txt w K mg) (F : Def K mg "_law_spoiled" s_law_spoiled) (c_law_odd_number : Cal P w K mg base "_law_odd_number" ["_law_cell"] 1 m_law_odd_number) (c_law_number : Cal P w K mg base "_law_number" ["_law_cell"] 1 m_law_number) (c_law_odd_row : Cal P w K mg base "_law_odd_row" ["_law_cell"] 1 m_law_odd_row) :
    Cal P w K mg base "_law_spoiled" ["_law_words_here", "_law_way", "_law_cell"] 2 m_law_spoiled :=
  cal_mk (k := 1) (own' := []) (N := ["_law_words_here", "_law_way", "_law_cell"]) (b := b_law_spoiled) F sc_law_spoiled (by decide) (fun _ _ _ _ _ _ us hl => match us, hl with | [_, _, _], _ => rfl) fun f cdv A outer s H E hr =>
      (vs_cons (vs_set 0 sc_law_spoiled.nd rfl (by first | exact Or.inl rfl | exact Or.inr rfl) (vg_callTy call_list_of cb_list nx_list rfl T.b_list (by decide +kernel) (va_cons (ve_var 0 (pv 0)) va_nil)))
      (vs_cons (vs_if (own' := [0]) (VW.vt (vw_and (vt_cmp (op_eqD hr.units) d_eq nx_eq (ve_var 1 (pv 1)) (VG.ve vg_int) (nomark _)) (vw_and1 (vt_cmp op_gt d_gt nx_gt (VG.ve (vg_callB call_len cb_len nx_len rfl T.b_len PySem.boot_len (va_cons (ve_var 0 (pv 0)) va_nil))) (VG.ve vg_int) (nomark _))))) (vs_one (vs_setItem 0 (ps_asg (VG.pe (vg_fn c_law_odd_number hr (takes_of rfl rfl rfl rfl) rfl (va_cons (VG.ve (vg_op op_fdivW d_fdiv nx_fdiv (ve_var 2 (pv 2)) (VG.ve vg_int))) va_nil) (len_cons len_nil))) (pg_sub (pv 0) (VE.pe (VG.ve (vg_op op_addA d_add nx_add (VG.ve vg_int) (VG.ve (vg_op op_mod d_mod nx_mod (ve_var 2 (pv 2)) (VG.ve (vg_op op_sub d_sub nx_sub (VG.ve (vg_callB call_len cb_len nx_len rfl T.b_len PySem.boot_len (va_cons (ve_var 0 (pv 0)) va_nil))) (VG.ve vg_int)))))))) set_list)))) vs_nil)
      (vs_cons (vs_if (own' := [0]) (VW.vt (vw_or (vt_cmp (op_eqD hr.units) d_eq nx_eq (ve_var 1 (pv 1)) (VG.ve vg_int) (nomark _)) (vw_or1 (VW.vt (vw_and (vt_cmp (op_eqD hr.units) d_eq nx_eq (ve_var 1 (pv 1)) (VG.ve vg_int) (nomark _)) (vw_and1 (vt_cmp (op_eqD hr.units) d_eq nx_eq (VG.ve (vg_callB call_len cb_len nx_len rfl T.b_len PySem.boot_len (va_cons (ve_var 0 (pv 0)) va_nil))) (VG.ve vg_int) (nomark _)))))))) (vs_one (vs_append 0 (ps_expr (pe_bm PySem.F.plainAttrs_list PySem.F.slot_list_append PySem.F.type_list_append mt_append (pv 0) (pa_cons (VG.pe (vg_fn c_law_number hr (takes_of rfl rfl rfl rfl) rfl (va_cons (ve_var 2 (pv 2)) va_nil) (len_cons len_nil))) pa_nil))))) vs_nil)
      (vs_cons (vs_if (own' := [0]) (vt_cmp (op_eqD hr.units) d_eq nx_eq (ve_var 1 (pv 1)) (VG.ve vg_int) (nomark _)) (vs_one (vs_setItem 0 (ps_asg (VG.pe (VE.vg (ve_ix (VG.ve (vg_lst (vb_cons (vg_op op_addA d_add nx_add (VG.ve vg_str) (ve_ix (ve_var 0 (pv 0)) (VG.ve vg_int) (fun _ _ => rfl))) (vb_cons (vg_op op_addA d_add nx_add (ve_ix (ve_var 0 (pv 0)) (VG.ve vg_int) (fun _ _ => rfl)) (VG.ve vg_str)) (vb_cons (vg_upper (ve_ix (ve_var 0 (pv 0)) (VG.ve vg_int) (fun _ _ => rfl))) (vb_cons (vg_sl (ve_ix (ve_var 0 (pv 0)) (VG.ve vg_int) (fun _ _ => rfl)) (vo_some (VG.ve vg_int)) vo_none) vb_nil)))) (len_cons (len_cons (len_cons (len_cons len_nil)))))) (VG.ve (vg_op op_mod d_mod nx_mod (ve_var 2 (pv 2)) (VG.ve vg_int))) (fun _ _ => rfl)))) (pg_sub (pv 0) (VE.pe (VG.ve vg_int)) set_list)))) vs_nil)
      (vs_cons (vs_if (own' := [0]) (vt_cmp (op_eqD hr.units) d_eq nx_eq (ve_var 1 (pv 1)) (VG.ve vg_int) (nomark _)) (vs_one (vs_insert 0 (ps_expr (pe_bm PySem.F.plainAttrs_list PySem.F.slot_list_insert PySem.F.type_list_insert mt_insertM (pv 0) (pa_cons (VE.pe (VG.ve (vg_op op_mod d_mod nx_mod (ve_var 2 (pv 2)) (VG.ve (vg_op op_addA d_add nx_add (VG.ve (vg_callB call_len cb_len nx_len rfl T.b_len PySem.boot_len (va_cons (ve_var 0 (pv 0)) va_nil))) (VG.ve vg_int)))))) (pa_cons (VG.pe vg_str) pa_nil))) (by kernel_rfl)))) vs_nil)
      (vs_cons (vs_if (own' := [0]) (VW.vt (vw_and (vt_cmp (op_eqD hr.units) d_eq nx_eq (ve_var 1 (pv 1)) (VG.ve vg_int) (nomark _)) (vw_and1 (vt_cmp op_gt d_gt nx_gt (VG.ve (vg_callB call_len cb_len nx_len rfl T.b_len PySem.boot_len (va_cons (ve_var 0 (pv 0)) va_nil))) (VG.ve vg_int) (nomark _))))) (vs_one (vs_popAt 0 (ps_expr (pe_bm PySem.F.plainAttrs_list PySem.F.slot_list_pop PySem.F.type_list_pop mt_popAt (pv 0) (pa_cons (VE.pe (VG.ve (vg_op op_addA d_add nx_add (VG.ve vg_int) (VG.ve (vg_op op_mod d_mod nx_mod (ve_var 2 (pv 2)) (VG.ve (vg_op op_sub d_sub nx_sub (VG.ve (vg_callB call_len cb_len nx_len rfl T.b_len PySem.boot_len (va_cons (ve_var 0 (pv 0)) va_nil))) (VG.ve vg_int)))))))) pa_nil)) (by kernel_rfl)))) vs_nil)
      (vs_cons (vs_if (own' := [0]) (VW.vt (vw_or (vt_cmp (op_eqD hr.units) d_eq nx_eq (ve_var 1 (pv 1)) (VG.ve vg_int) (nomark _)) (vw_or1 (VW.vt (vw_and (vt_cmp (op_eqD hr.units) d_eq nx_eq (ve_var 1 (pv 1)) (VG.ve vg_int) (nomark _)) (vw_and1 (vt_cmp (op_eqD hr.units) d_eq nx_eq (VG.ve (vg_callB call_len cb_len nx_len rfl T.b_len PySem.boot_len (va_cons (ve_var 0 (pv 0)) va_nil))) (VG.ve vg_int) (nomark _)))))))) (vs_one (vs_ret (vg_fn c_law_odd_row hr (takes_of rfl rfl rfl rfl) rfl (va_cons (ve_var 2 (pv 2)) va_nil) (len_cons len_nil)))) vs_nil)
      (vs_one (vs_ret (vg_m1 PySem.F.slot_str_join PySem.F.type_str_join mt_join md_join mn_join (VG.ve vg_str) (ve_var 0 (pv 0))))))))))))
/-! _law_refused -/
abbrev s_law_refused : Stmt := topS 35
theorem sc_law_refused : FnScope ["_law_row", "_law_kinds", "e"] ["_law_row"] (defScope s_law_refused) := ⟨rfl, rfl, rfl, by decide +kernel, rfl, by decide +kernel, by decide +kernel⟩
noncomputable def b_law_refused : Vs.Env → Sr := (seqS (asgS 1 (lstE nilA))
    (seqS (tryAsS 2 tb_WaveError (exprS (callF m_question (consA (varE 0) nilA))) (fun c a => (seqS (asgS 1 (lstE (consA (isE 2 a (isXR tbI c "NoRow")) (consA (isE 2 a (isXR tbI c "ValueError")) (consA (isE 2 a (isXR tbI c "NoHead")) (consA (isE 2 a (isXR tbI c "NoLadder")) nilA))))))
    (seqS (asgS 1 (op2 addD (varE 1) (lstE (consA (isE 2 a (isXR tbI c "NoBits")) (consA (isE 2 a (isXR tbI c "NoLevel")) (consA (isE 2 a (isXR tbI c "NoPicture")) nilA))))))
    (asgS 1 (op2 addD (varE 1) (lstE (consA (isE 2 a (isXR tbI c "NoPiece")) (consA (isE 2 a (isXR tbI c "NoText")) (consA (isE 2 a (isXR tbI c "TooMany")) nilA))))))))))
    (retS (op2 eqD (varE 1) (op2 addD (lstE (consA (cE (.bl true)) (consA (cE (.bl true)) nilA))) (op2 repD (lstE (consA (cE (.bl false)) nilA)) (cE (.int 8))))))))
noncomputable def m_law_refused : List D → R D := runB 3 b_law_refused
theorem r_law_refused (x0 : D) : m_law_refused [x0] = bodyR (b_law_refused [some x0, none, none]) := rfl
theorem c_law_refused {P : Program} {w : World} {K : PySem.W.Frag} {mg : Str → Option Value} {base : Heap} (T : Txt w K mg) (F : Def K mg "_law_refused" s_law_refused) (c_question : Cal P w K mg base "question" ["row"] 3 m_question) :
    Cal P w K mg base "_law_refused" ["_law_row"] 4 m_law_refused :=
  cal_mk (k := 3) (own' := []) (N := ["_law_row", "_law_kinds", "e"]) (b := b_law_refused) F sc_law_refused (by decide) (fun _ _ _ _ _ _ us hl => match us, hl with | [_], _ => rfl) fun f cdv A outer s H E hr =>
      (vs_cons (vs_set 1 sc_law_refused.nd rfl (by first | exact Or.inl rfl | exact Or.inr rfl) (vg_lst vb_nil len_nil))
      (vs_cons (vs_tryAs (oe := []) (own1 := [1]) (own2 := [1, 1, 1]) (own' := [1]) 2 T.h_WaveError rfl rfl sc_law_refused.nd rfl rfl rfl (takes_of rfl rfl rfl rfl) (fun W pn xe tk po => (vs_one (vs_expr (VG.ve (vg_fn c_question hr tk rfl (va_cons (ve_var 0 (pv 0)) va_nil) (len_cons len_nil)))))) (fun c C hc ht a ob pn hz hf => (vs_cons (vs_set 1 sc_law_refused.nd rfl (by first | exact Or.inl rfl | exact Or.inr rfl) (vg_lst (vb_cons (vg_isE (Cx' := 0) T.is_tab hc hz hf rfl T.b_isinstance (pv 2) rfl T.x_NoRow.cl) (vb_cons (vg_isEB T.is_tab hc hz hf rfl T.b_isinstance (pv 2) rfl T.b_ValueError (t := "ValueError") (by decide +kernel)) (vb_cons (vg_isE (Cx' := 0) T.is_tab hc hz hf rfl T.b_isinstance (pv 2) rfl T.x_NoHead.cl) (vb_cons (vg_isE (Cx' := 0) T.is_tab hc hz hf rfl T.b_isinstance (pv 2) rfl T.x_NoLadder.cl) vb_nil)))) (len_cons (len_cons (len_cons (len_cons len_nil))))))
      (vs_cons (vs_set 1 sc_law_refused.nd rfl (by first | exact Or.inl rfl | exact Or.inr rfl) (vg_op op_addA d_add nx_add (ve_var 1 (pv 1)) (VG.ve (vg_lst (vb_cons (vg_isE (Cx' := 0) T.is_tab hc hz hf rfl T.b_isinstance (pv 2) rfl T.x_NoBits.cl) (vb_cons (vg_isE (Cx' := 0) T.is_tab hc hz hf rfl T.b_isinstance (pv 2) rfl T.x_NoLevel.cl) (vb_cons (vg_isE (Cx' := 0) T.is_tab hc hz hf rfl T.b_isinstance (pv 2) rfl T.x_NoPicture.cl) vb_nil))) (len_cons (len_cons (len_cons len_nil)))))))
      (vs_one (vs_set 1 sc_law_refused.nd rfl (by first | exact Or.inl rfl | exact Or.inr rfl) (vg_op op_addA d_add nx_add (ve_var 1 (pv 1)) (VG.ve (vg_lst (vb_cons (vg_isE (Cx' := 0) T.is_tab hc hz hf rfl T.b_isinstance (pv 2) rfl T.x_NoPiece.cl) (vb_cons (vg_isE (Cx' := 0) T.is_tab hc hz hf rfl T.b_isinstance (pv 2) rfl T.x_NoText.cl) (vb_cons (vg_isE (Cx' := 0) T.is_tab hc hz hf rfl T.b_isinstance (pv 2) rfl T.x_TooMany.cl) vb_nil))) (len_cons (len_cons (len_cons len_nil))))))))))))
      (vs_one (vs_ret (vg_cmp (op_eqD hr.units) d_eq nx_eq (ve_var 1 (pv 1)) (VG.ve (vg_op op_addA d_add nx_add (VG.ve (vg_lst (vb_cons vg_bl (vb_cons vg_bl vb_nil)) (len_cons (len_cons len_nil)))) (VG.ve (vg_rep (vg_lst (vb_cons vg_bl vb_nil) (len_cons len_nil)) (VG.ve vg_int))))) (nomark _))))))
/-! law -/
abbrev s_law : Stmt := topS 36
theorem sc_law : FnScope ["_law_script", "_law_kind", "_law_words_here", "_law_k", "_law_row", "_law_bad"] ["_law_script"] (defScope s_law) := ⟨rfl, rfl, rfl, by decide +kernel, rfl, by decide +kernel, by decide +kernel⟩
noncomputable def b_law : Vs.Env → Sr := (seqS (asgS 1 (op2 modD (callF m_law_cell_at (consA (varE 0) (consA (cE (.int 0)) nilA))) (cE (.int 7))))
    (seqS (asgS 2 (callF m_law_words (consA (varE 1) nilA)))
    (seqS (forS (itR rng2 (consA (cE (.int 1)) (consA (callB lenD (consA (varE 2) nilA)) nilA))) (tgN 3) (setS 2 (varE 3) (callF m_law_number (consA (callF m_law_cell_at (consA (varE 0) (consA (varE 3) nilA))) nilA))))
    (seqS (asgS 4 (m1E joinG (cE (.str " ")) (varE 2)))
    (seqS (asgS 5 (callF m_law_spoiled (consA (varE 2) (consA (op2 modD (callF m_law_cell_at (consA (varE 0) (consA (cE (.int 5)) nilA))) (cE (.int 6))) (consA (callF m_law_cell_at (consA (varE 0) (consA (cE (.int 6)) nilA))) nilA)))))
    (seqS (ifS (notT (boolR (callF m_law_right (consA (varE 4) (consA (varE 1) nilA))))) (retS (cE (.bl false))) nilS)
    (retS (andE (callF m_law_refused (consA (varE 5) nilA)) (callF m_law_right (consA (varE 4) (consA (varE 1) nilA)))))))))))
noncomputable def m_law : List D → R D := runB 6 b_law
theorem r_law (x0 : D) : m_law [x0] = bodyR (b_law [some x0, none, none, none, none, none]) := rfl
theorem v_law {P : Program} {w : World} {K : PySem.W.Frag} {mg : Str → Option Value} {base : Heap} (T : Txt w K mg) (c_law_cell_at : Cal P w K mg base "_law_cell_at" ["_law_script", "_law_k"] 1 m_law_cell_at) (c_law_words : Cal P w K mg base "_law_words" ["_law_kind"] 1 m_law_words) (c_law_number : Cal P w K mg base "_law_number" ["_law_cell"] 1 m_law_number) (c_law_spoiled : Cal P w K mg base "_law_spoiled" ["_law_words_here", "_law_way", "_law_cell"] 2 m_law_spoiled) (c_law_right : Cal P w K mg base "_law_right" ["_law_row", "_law_kind"] 4 m_law_right) (c_law_refused : Cal P w K mg base "_law_refused" ["_law_row"] 4 m_law_refused) (f : Addr) (cdv : Value) (A : Around) (outer : List PySem.Env) (s : Shared) (H : Hp) (E : XK) (hr : Room 4 (A.deeper (envOfC "law" (defScope s_law) s.heap.objs.size f cdv))) :
    VSs (cxOf (L2.CX P w) P w K mg base ["_law_script", "_law_kind", "_law_words_here", "_law_k", "_law_row", "_law_bad"] "law" (defScope s_law) f cdv A outer s H E) (fun cls d _ H => E cls d H) [] [] nol (defBody s_law) b_law :=
      (vs_cons (vs_set 1 sc_law.nd rfl (by first | exact Or.inl rfl | exact Or.inr rfl) (vg_op op_mod d_mod nx_mod (VG.ve (vg_fn c_law_cell_at hr (takes_of rfl rfl rfl rfl) rfl (va_cons (ve_var 0 (pv 0)) (va_cons (VG.ve vg_int) va_nil)) (len_cons (len_cons len_nil)))) (VG.ve vg_int)))
      (vs_cons (vs_set 2 sc_law.nd rfl (by first | exact Or.inl rfl | exact Or.inr rfl) (vg_fn c_law_words hr (takes_of rfl rfl rfl rfl) rfl (va_cons (ve_var 1 (pv 1)) va_nil) (len_cons len_nil)))
      (vs_cons (vs_for (own := [2, 1]) (passes_of rfl) rfl (vi_rng2 rfl T.b_range (va_cons (VG.ve vg_int) (va_cons (VG.ve (vg_callB call_len cb_len nx_len rfl T.b_len PySem.boot_len (va_cons (ve_var 2 (pv 2)) va_nil))) va_nil))) ⟨_, (pg_name (i := 3) sc_law.nd rfl (by first | exact Or.inl rfl | exact Or.inr rfl)), (tk_name 3)⟩ (vs_one (vs_setItem 2 (ps_asg (VG.pe (vg_fn c_law_number hr (takes_of rfl rfl rfl rfl) rfl (va_cons (VG.ve (vg_fn c_law_cell_at hr (takes_of rfl rfl rfl rfl) rfl (va_cons (ve_var 0 (pv 0)) (va_cons (ve_var 3 (pv 3)) va_nil)) (len_cons (len_cons len_nil)))) va_nil) (len_cons len_nil))) (pg_sub (pv 2) (VE.pe (ve_var 3 (pv 3))) set_list)))))
      (vs_cons (vs_set 4 sc_law.nd rfl (by first | exact Or.inl rfl | exact Or.inr rfl) (vg_m1 PySem.F.slot_str_join PySem.F.type_str_join mt_join md_join mn_join (VG.ve vg_str) (ve_var 2 (pv 2))))
      (vs_cons (vs_set 5 sc_law.nd rfl (by first | exact Or.inl rfl | exact Or.inr rfl) (vg_fn c_law_spoiled hr (takes_of rfl rfl rfl rfl) rfl (va_cons (ve_var 2 (pv 2)) (va_cons (VG.ve (vg_op op_mod d_mod nx_mod (VG.ve (vg_fn c_law_cell_at hr (takes_of rfl rfl rfl rfl) rfl (va_cons (ve_var 0 (pv 0)) (va_cons (VG.ve vg_int) va_nil)) (len_cons (len_cons len_nil)))) (VG.ve vg_int))) (va_cons (VG.ve (vg_fn c_law_cell_at hr (takes_of rfl rfl rfl rfl) rfl (va_cons (ve_var 0 (pv 0)) (va_cons (VG.ve vg_int) va_nil)) (len_cons (len_cons len_nil)))) va_nil))) (len_cons (len_cons (len_cons len_nil)))))
      (vs_cons (vs_if (own' := [5, 4, 2, 1]) (vt_not (vt_val (VG.ve (vg_fn c_law_right hr (takes_of rfl rfl rfl rfl) rfl (va_cons (ve_var 4 (pv 4)) (va_cons (ve_var 1 (pv 1)) va_nil)) (len_cons (len_cons len_nil)))))) (vs_one (vs_ret vg_bl)) vs_nil)
      (vs_one (vs_ret (vg_and (VG.ve (vg_fn c_law_refused hr (takes_of rfl rfl rfl rfl) rfl (va_cons (ve_var 5 (pv 5)) va_nil) (len_cons len_nil))) (vg_one (vg_fn c_law_right hr (takes_of rfl rfl rfl rfl) rfl (va_cons (ve_var 4 (pv 4)) (va_cons (ve_var 1 (pv 1)) va_nil)) (len_cons (len_cons len_nil)))))))))))))
end Lw
namespace Lw
open PySem PySem.Spec PyProof.Rows L2 Vs
local macro_rules | `(tactic| walk_at "ev") => `(tactic| try simp -implicitDefEqProofs only [seqS_eq, seq_nx, seq_rt, seq_st, seq_bk, seq_ct, seq_ex, seq_ite, body_nx, body_rt, body_ex, body_ite, bindS_ok, bindS_st, bindS_ex, bindS_ite, bind_ite, R.bind_ok, R.bind_st, R.bind_ex, var0, varS, retV0, retVS, asgS, cE, op2, negE, negD_int, imm, immD_int, immD_bl, immD_str, immD_non, immD_tup, immDs_nil, immDs_cons, addD_int, subD_int, mulD_ok, fdivD_pos, modD_pos, powD_ok, shlD_ok, shrD_ok, ltD_int, leD_int, gtD_int, geD_int, eqD_int, neD_int, boolR, andT, orT, notT, andE, orE, notE, ifS, retS, retNS, nilS, callB, callF, consA, nilA, lenD_lst, lenD_tup, len_0, len_1, len_2, len_3, absD_int, Int.reduceEq, not_true, not_false_eq_true, ne_eq, neD_int, eqD_pair, neD_pair, maxD_int, minD_int, maxD_l2, minD_l2, List.set_cons_zero, List.set_cons_succ, isiE, chD_eq, chK_bl, ite_bl, eqD_bl, decide_true, decide_false, if_true, if_false, ite_true, ite_false, Bool.not_true, Bool.not_false, decide_eq_true_eq, Bool.not_eq_true', decide_eq_false_iff_not, Bool.false_eq_true, Bool.true_eq_false, exprS, reduceIte, tupE, lstE, List.length_map, isD, isNotD, isNonB, ix0_lst, ix0_tup, ix1_lst, ix1_tup, ix2_lst, ix2_tup, ix3_lst, ix3_tup, ix4_lst, ix4_tup, ix5_lst, ix5_tup, Go_nx, Go_ct, Int.reduceLT, Int.reduceLE, Int.reduceNeg, Int.reduceSub, Int.reduceAdd, Int.reduceMul, Int.reduceToNat, Nat.reduceLT, Nat.reduceLeDiff, Nat.reducePow, Bool.and_true, Bool.and_false, Bool.true_and, Bool.false_and, isT_int_non, isT_int_bl, isT_int_int, isT_int_str, isT_int_lst, isT_int_tup, isT_bool_non, isT_bool_bl, isT_bool_int, isT_bool_str, isT_bool_lst, isT_bool_tup, isT_str_non, isT_str_bl, isT_str_int, isT_str_str, isT_str_lst, isT_str_tup, isT_list_non, isT_list_bl, isT_list_int, isT_list_str, isT_list_lst, isT_list_tup, isT_tuple_non, isT_tuple_bl, isT_tuple_int, isT_tuple_str, isT_tuple_lst, isT_tuple_tup])
/-- the script's cell, 0 behind its end -/
def cell (ns : List Int) (k : Int) : Int := ns.getD k.toNat 0
theorem cell_at (ns : List Int) (k : Int) (h : 0 ≤ k) : m_law_cell_at [.lst (ns.map D.int), .int k] = .ok (.int (cell ns k)) := by
  rw [r_law_cell_at]
  simp only [b_law_cell_at]
  walk_at "ev"
  split
  · rename_i h2
    rw [ixD_ints h h2]
    walk_at "ev"
    rfl
  · rename_i h2
    unfold cell
    rw [List.getD_eq_getElem?_getD, List.getElem?_eq_none (by omega)]
    rfl
theorem setS_map {α : Type} {f : α → D} {i : Nat} {fk fe : Vs.Env → R D} {ρ : Vs.Env} {xs : List α} {k : Int} {v : α} (he : fe ρ = .ok (f v)) (hρ : ρ[i]? = some (some (.lst (xs.map f)))) (hk : fk ρ = .ok (.int k)) (h0 : 0 ≤ k) (h : k < xs.length) :
    setS i fk fe ρ = .nx (ρ.set i (some (.lst ((xs.set k.toNat v).map f)))) := by
  unfold setS
  rw [he]
  simp only [bindS_ok]
  rw [hρ]
  simp only
  rw [hk]
  simp only [bindS_ok]
  rw [ixN_lt h0 (by rw [List.length_map]; exact h)]
  simp only
  rw [List.map_set]
theorem appS_map {α : Type} {f : α → D} {i : Nat} {g : Vs.Env → R D} {ρ : Vs.Env} {xs : List α} {v : α} (he : g ρ = .ok (f v)) (hρ : ρ[i]? = some (some (.lst (xs.map f)))) (h : xs.length < 16000000) :
    appS i g ρ = .nx (ρ.set i (some (.lst ((xs ++ [v]).map f)))) := by
  unfold appS
  rw [hρ]
  simp only
  rw [he]
  simp only [bindS_ok]
  rw [if_pos (by rw [sizeLine_eq, List.length_map]; omega), List.map_append]
  rfl
theorem asg_ok {i : Nat} {f : Vs.Env → R D} {ρ : Vs.Env} {d : D} (h : f ρ = .ok d) : asgS i f ρ = .nx (ρ.set i (some d)) := by
  unfold asgS
  rw [h, bindS_ok]
/-! texts by their code points -/
def stL (l : List Nat) : Str := ⟨l.toArray⟩
theorem stL_len (l : List Nat) : (stL l).length = l.length := by
  show (List.toArray _).size = _
  simp
theorem stL_app (a b : List Nat) : stL a ++ stL b = stL (a ++ b) := by
  show (⟨_ ++ _⟩ : Str) = ⟨_⟩
  simp [stL]
theorem stL_inj {a b : List Nat} (h : stL a = stL b) : a = b := by
  unfold stL at h
  injection h with h
  simpa using h
theorem addD_stL (a b : List Nat) (h : a.length + b.length ≤ 16000000) : addD (.str (stL a)) (.str (stL b)) = .ok (.str (stL (a ++ b))) := by
  unfold addD
  simp only
  rw [if_pos (by rw [stL_len, stL_len, sizeLine_eq]; omega), stL_app]
theorem lenD_stL {l : List Nat} (h : l.length ≤ 16000000) : lenD [.str (stL l)] = .ok (.int l.length) := by
  unfold lenD
  simp only
  rw [if_pos (by rw [stL_len, sizeLine_eq]; omega), stL_len]
theorem ixD_stL {l : List Nat} {k : Int} {c : Nat} (h0 : 0 ≤ k) (h : l[k.toNat]? = some c) (hl : l.length ≤ 16000000) : ixD (.str (stL l)) (.int k) = .ok (.str (stL [c])) := by
  have hk : k < l.length := by
    have := (List.getElem?_eq_some_iff.mp h).1
    omega
  unfold ixD
  simp only
  rw [if_pos (by rw [stL_len, sizeLine_eq]; omega), show (stL l).cps.toList = l by simp [stL], atI_lt h0 hk, h]
  rfl
theorem slD_stL {l : List Nat} (lo hi : Option Int) (h : l.length ≤ 16000000) : slD (.str (stL l)) lo hi = .ok (.str (stL (cutL l lo hi))) := by
  unfold slD
  simp only
  rw [if_pos (by rw [stL_len, sizeLine_eq]; omega)]
  unfold cutS cutL
  rw [stL_len]
  simp [stL]
theorem cutL_suf {α : Type} (l : List α) (n : Nat) : cutL l (some (n : Int)) none = l.drop n := by
  unfold cutL
  rw [HT.sIx_none, HT.sIx_nat]
  by_cases h : n ≤ l.length
  · rw [Nat.min_eq_left h, List.take_of_length_le (by rw [List.length_drop]; exact Nat.le_refl _)]
  · rw [Nat.min_eq_right (by omega), Nat.sub_self, List.take_zero, List.drop_of_length_le (by omega)]
theorem strL_stL (l : List Nat) : strL (stL l) = l.map fun c => D.str (stL [c]) := by
  unfold strL stL
  simp
def okT (l : List Nat) : Prop := ∀ c ∈ l, c < 0x110000
theorem ok_stL {l : List Nat} (h : okT l) : PyData.strOk (stL l) = true := by
  unfold PyData.strOk stL
  simp only
  rw [List.all_toArray, List.all_eq_true]
  intro c hc
  exact decide_eq_true (h c hc)
theorem eqB_stL (a b : List Nat) : eqB (.str (stL a)) (.str (stL b)) = decide (a = b) := by
  unfold eqB
  rw [pyD, pyD, PyData.eqv]
  by_cases h : a = b
  · subst h; simp
  · rw [decide_eq_false h]
    simp
    exact fun e => h (stL_inj e)
theorem eqD_stL {a b : List Nat} (ha : okT a) (hb : okT b) : eqD (.str (stL a)) (.str (stL b)) = .ok (.bl (decide (a = b))) := by
  rw [eqD_ofFl (n := 0) (.str _ (ok_stL ha)) (.str _ (ok_stL hb)) (by decide), eqB_stL]
theorem neD_stL {a b : List Nat} (ha : okT a) (hb : okT b) : neD (.str (stL a)) (.str (stL b)) = .ok (.bl (!decide (a = b))) := by
  rw [neD_ofFl (n := 0) (.str _ (ok_stL ha)) (.str _ (ok_stL hb)) (by decide), eqB_stL]
theorem ninSignD_stL (c : Nat) (l : List Nat) : ninSignD (.str (stL [c])) (.str (stL l)) = .ok (.bl (!decide (c ∈ l))) := by
  unfold ninSignD stL
  simp
theorem starts_one (l : List Nat) (c : Nat) : Txt.startswith (stL l) (stL [c]) = decide (l.head? = some c) := by
  unfold Txt.startswith
  rw [StrLaws.subAt_eq, stL_len, stL_len]
  cases l with
  | nil => rfl
  | cons a t =>
    simp [stL]
    by_cases h : a = c <;> simp [h]
theorem m1E_str {g : Str → D → R D} {f h : Vs.Env → R D} {ρ : Vs.Env} {a : Str} (e : f ρ = .ok (.str a)) : m1E g f h ρ = (h ρ).bind (g a) := by
  unfold m1E
  rw [e]
  rfl
theorem isE_tok {i : Nat} {a : Addr} {r : R D} {ρ : Vs.Env} {c : Str} (h : ρ[i]? = some (some (.exc c a))) : isE i a r ρ = r := by
  unfold isE
  rw [h]
  simp

/-! k54: numbers read -/
theorem fig_lit : (Str.ofString "0123456789") = stL [48, 49, 50, 51, 52, 53, 54, 55, 56, 57] := by decide +kernel
theorem m_lit : (Str.ofString "-") = stL [45] := by decide +kernel
theorem z_lit : (Str.ofString "0") = stL [48] := by decide +kernel
def figL : List Nat := [48, 49, 50, 51, 52, 53, 54, 55, 56, 57]
def figs (w : List Nat) : List Nat := if w.head? = some 45 then w.drop 1 else w
def isFig (c : Nat) : Bool := decide (c ∈ figL)
def worth (f : List Nat) : Int := f.foldl (fun n c => 10 * n + ((c - 48 : Nat) : Int)) 0
def rdN (w : List Nat) : Option Int :=
  let f := figs w
  if ¬ (1 ≤ f.length ∧ f.length ≤ 4) then none
  else if f.all isFig = false then none
  else if f.head? = some 48 ∧ w ≠ [48] then none
  else if f ≠ w then some (-worth f) else some (worth f)
theorem idx_figs : ∀ c ∈ figL, Txt.index0 (stL figL) (stL [c]) = some (c - 48) := by decide +kernel
theorem idx_fig {c : Nat} (h : isFig c = true) : Txt.index0 (stL figL) (stL [c]) = some (c - 48) := idx_figs c (of_decide_eq_true h)
theorem fig_le : ∀ c ∈ figL, c - 48 ≤ 9 := by decide
theorem loop1 (w figs : D) : ∀ (f : List Nat) (x3 x4 : Option D), ∃ x, forL (tgN 2) (ifS (boolR (op2 ninSignD (varE 2) (cE (.str (stL figL))))) (raiseS "NoText") nilS) (f.map fun c => D.str (stL [c])) [some w, some figs, x3, x4] =
    if f.all isFig = true then .nx [some w, some figs, x, x4] else .ex "NoText" [some w, some figs, x, x4]
  | [], x3, x4 => ⟨x3, by simp [forL]⟩
  | c :: f, x3, x4 => by
    obtain ⟨x, ih⟩ := loop1 w figs f (some (.str (stL [c]))) x4
    rw [List.map_cons]
    unfold forL
    simp only [tgN]
    walk_at "ev"
    rw [ninSignD_stL]
    walk_at "ev"
    by_cases h : c ∈ figL
    · rw [if_neg (by simp [h])]
      simp only
      rw [ih, List.all_cons, show isFig c = true from decide_eq_true h, Bool.true_and]
      exact ⟨x, rfl⟩
    · rw [if_pos h, List.all_cons, show isFig c = false from decide_eq_false h, Bool.false_and]
      exact ⟨_, rfl⟩
theorem loop2 (w figs : D) : ∀ (f : List Nat) (x3 : Option D) (n : Int) (a : Nat), f.all isFig = true → n.natAbs < 2 ^ a → a + 4 * f.length ≤ 64 → ∃ x, forL (tgN 2) (asgS 3 (op2 addD (op2 mulD (cE (.int 10)) (varE 3)) (m1E indexG (cE (.str (stL figL))) (varE 2)))) (f.map fun c => D.str (stL [c])) [some w, some figs, x3, some (.int n)] =
    .nx [some w, some figs, x, some (.int (f.foldl (fun n c => 10 * n + ((c - 48 : Nat) : Int)) n))]
  | [], x3, n, a, _, _, _ => ⟨x3, rfl⟩
  | c :: f, x3, n, a, hf, hn, ha => by
    rw [List.all_cons, Bool.and_eq_true] at hf
    rw [List.length_cons] at ha
    have h9 := fig_le c (of_decide_eq_true hf.1)
    have hp : 2 ^ (a + 4) = 2 ^ a * 16 := Nat.pow_add 2 a 4
    obtain ⟨x, ih⟩ := loop2 w figs f (some (.str (stL [c]))) (10 * n + ((c - 48 : Nat) : Int)) (a + 4) hf.2 (by rw [hp]; omega) (by omega)
    rw [List.map_cons]
    unfold forL
    simp only [tgN]
    walk_at "ev"
    rw [mulD_ok ((Bits.of64 (by decide) (by decide) : Bits 64 10).ok (⟨Nat.lt_of_lt_of_le hn (Nat.pow_le_pow_right (by decide) (show a ≤ 64 by omega))⟩ : Bits 64 n) (by decide))]
    walk_at "ev"
    rw [m1E_str rfl]
    walk_at "ev"
    simp only [indexG, idx_fig hf.1]
    walk_at "ev"
    exact ⟨x, ih⟩
theorem okL_fig {w : List Nat} (h : okT w) : okT (figs w) := by
  unfold figs
  split
  · exact fun c hc => h c (List.mem_of_mem_drop hc)
  · exact h
theorem fig_len (w : List Nat) : (figs w).length ≤ w.length := by
  unfold figs
  split
  · rw [List.length_drop]; omega
  · exact Nat.le_refl _
theorem figs_step {w : List Nat} (hl : w.length ≤ 1000) : ifS (boolR (m1E startsG (varE 0) (cE (.str (Str.ofString "-"))))) (asgS 1 (slG (varE 0) (someO (cE (.int 1))) noO)) nilS [some (.str (stL w)), some (.str (stL w)), none, none] = .nx [some (.str (stL w)), some (.str (stL (figs w))), none, none] := by
  have e1 : slG (varE 0) (someO (cE (.int 1))) noO [some (.str (stL w)), some (.str (stL w)), none, none] = .ok (.str (stL (w.drop 1))) := by
    unfold slG slE someO noO
    walk_at "ev"
    rw [slD_stL _ _ (by omega), show (some (1 : Int)) = some ((1 : Nat) : Int) from rfl, cutL_suf]
    walk_at "ev"
    unfold immL
    walk_at "ev"
  rw [m_lit]
  walk_at "ev"
  rw [m1E_str rfl]
  walk_at "ev"
  simp only [startsG, starts_one]
  walk_at "ev"
  rw [e1]
  walk_at "ev"
  unfold figs
  split <;> rfl
theorem readn_ok {w : List Nat} (hw : okT w) (hl : w.length ≤ 1000) : m_read_number [.str (stL w)] = match rdN w with | some n => .ok (.int n) | none => .ex "NoText" := by
  have hfl := fig_len w
  have hfo := okL_fig hw
  rw [r_read_number]
  unfold b_read_number
  rw [seqS_eq, show asgS 1 (imm (varE 0)) [some (D.str (stL w)), none, none, none] = .nx [some (.str (stL w)), some (.str (stL w)), none, none] by walk_at "ev", seq_nx, seqS_eq, figs_step hl, seq_nx, fig_lit, z_lit]
  walk_at "ev"
  rw [lenD_stL (by omega)]
  walk_at "ev"
  unfold rdN
  simp only
  by_cases h1 : 1 ≤ (figs w).length ∧ (figs w).length ≤ 4
  rotate_left
  · rw [show (decide ((1 : Int) ≤ ((figs w).length : Int)) && decide (((figs w).length : Int) ≤ 4)) = false by
      rw [Bool.and_eq_false_iff, decide_eq_false_iff_not, decide_eq_false_iff_not]; omega]
    rw [if_pos rfl, if_pos h1]
    rfl
  rw [show (decide ((1 : Int) ≤ ((figs w).length : Int)) && decide (((figs w).length : Int) ≤ 4)) = true by
      rw [Bool.and_eq_true, decide_eq_true_eq, decide_eq_true_eq]; omega]
  rw [if_neg (by simp), if_neg (fun q => q h1)]
  simp only [forS, itV, itemsR]
  walk_at "ev"
  simp only [itemsR, bindS_ok]
  rw [strL_stL]
  obtain ⟨x, e⟩ := loop1 (.str (stL w)) (.str (stL (figs w))) (figs w) none none
  rw [show [48, 49, 50, 51, 52, 53, 54, 55, 56, 57] = figL from rfl, e]
  cases ha : (figs w).all isFig with
  | false => simp [seq_ex, body_ex]
  | true =>
    rw [if_pos rfl, if_neg (by simp)]
    obtain ⟨c, f, hf⟩ : ∃ c f, figs w = c :: f := by
      cases h : figs w with
      | nil => rw [h] at h1; simp at h1
      | cons c f => exact ⟨c, f, rfl⟩
    have hc : (figs w)[(0 : Int).toNat]? = some c := by rw [hf]; rfl
    walk_at "ev"
    rw [ixD_stL (by decide) hc (by omega)]
    walk_at "ev"
    rw [eqD_stL (fun d hd => hfo d (by rw [hf]; simp at hd; simp [hd])) (fun d hd => by simp at hd; subst hd; decide)]
    walk_at "ev"
    rw [neD_stL hw (fun d hd => by simp at hd; subst hd; decide)]
    walk_at "ev"
    have tail : bodyR ((forS (itV itemsR (varE 1)) (tgN 2) (asgS 3 (op2 addD (op2 mulD (cE (D.int 10)) (varE 3)) (m1E indexG (cE (D.str (stL figL))) (varE 2)))) [some (D.str (stL w)), some (D.str (stL (figs w))), x, some (D.int 0)]).seq
          (seqS (ifS (boolR (op2 neD (varE 1) (varE 0))) (retS (negE (varE 3))) nilS) (retV 3))) = match (if ¬ figs w = w then some (-worth (figs w)) else some (worth (figs w))) with | some n => R.ok (D.int n) | none => R.ex (Str.ofString "NoText") := by
      simp only [forS, itV]
      walk_at "ev"
      simp only [itemsR, bindS_ok]
      rw [strL_stL]
      obtain ⟨y, e⟩ := loop2 (.str (stL w)) (.str (stL (figs w))) (figs w) x 0 0 ha (by decide) (by omega)
      rw [e]
      walk_at "ev"
      rw [neD_stL hfo hw]
      walk_at "ev"
      by_cases h : figs w = w
      · rw [if_neg (by simp [h]), if_neg (by simp [h])]
        rfl
      · rw [if_pos (by simp [h]), if_pos h]
        rfl
    by_cases h8 : c = 48
    · subst h8
      rw [if_pos rfl]
      by_cases hw8 : w = [48]
      · rw [if_neg (fun q => q hw8), if_neg (fun q => q.2 hw8)]
        exact tail
      · rw [if_pos hw8, if_pos ⟨by rw [hf]; rfl, hw8⟩]
        rfl
    · rw [if_neg (by simpa using h8), if_neg (fun q => by rw [hf] at q; simp at q; exact h8 q.1)]
      exact tail
/-! the word of a number -/
def dgF : Nat → Nat → List Nat → List Nat
  | 0, r, acc => (48 + r) :: acc
  | f + 1, r, acc => if 9 < r then dgF f (r / 10) ((48 + r % 10) :: acc) else (48 + r) :: acc
def wd (n : Int) : List Nat := if n < 0 then 45 :: dgF 3 n.natAbs [] else dgF 3 n.natAbs []
theorem isFig_k {k : Nat} (h : k ≤ 9) : isFig (48 + k) = true := by
  have : ∀ k < 10, isFig (48 + k) = true := by decide
  exact this k (by omega)
theorem fig_head {f : List Nat} (h : f.all isFig = true) : f.head? ≠ some 45 := by
  cases f with
  | nil => simp
  | cons a t =>
    intro q
    simp at q
    subst q
    rw [List.all_cons] at h
    revert h
    rw [show isFig 45 = false by decide]
    simp
theorem rdN_pos {f : List Nat} (h1 : 1 ≤ f.length ∧ f.length ≤ 4) (h2 : f.all isFig = true) (h3 : f.head? = some 48 → f = [48]) : rdN f = some (worth f) := by
  have e : figs f = f := if_neg (fig_head h2)
  unfold rdN
  simp only [e]
  rw [if_neg (fun q => q h1), if_neg (by rw [h2]; decide), if_neg (fun q => q.2 (h3 q.1)), if_neg (fun q => q rfl)]
theorem rdN_neg {f : List Nat} (h1 : 1 ≤ f.length ∧ f.length ≤ 4) (h2 : f.all isFig = true) (h3 : f.head? ≠ some 48) : rdN (45 :: f) = some (-worth f) := by
  have e : figs (45 :: f) = f := if_pos rfl
  unfold rdN
  simp only [e]
  rw [if_neg (fun q => q h1), if_neg (by rw [h2]; decide), if_neg (fun q => h3 q.1), if_pos (fun q => by have := congrArg List.length q; simp at this)]
theorem dg_ok {m : Nat} (h : m < 10000) : ∃ f, dgF 3 m [] = f ∧ (1 ≤ f.length ∧ f.length ≤ 4) ∧ f.all isFig = true ∧ (f.head? = some 48 → m = 0 ∧ f = [48]) ∧ worth f = m := by
  by_cases a1 : m < 10
  · refine ⟨[48 + m], by rw [dgF, if_neg (by omega)], by simp, ?_, ?_, ?_⟩
    · simp only [List.all_cons, List.all_nil, Bool.and_true]
      exact isFig_k (by omega)
    · simp
    · simp only [worth, List.foldl_cons, List.foldl_nil]
      omega
  by_cases a2 : m < 100
  · refine ⟨[48 + m / 10, 48 + m % 10], by rw [dgF, if_pos (by omega), dgF, if_neg (by omega)], by simp, ?_, ?_, ?_⟩
    · simp only [List.all_cons, List.all_nil, Bool.and_true, Bool.and_eq_true]
      exact ⟨isFig_k (by omega), isFig_k (by omega)⟩
    · simp
      omega
    · simp only [worth, List.foldl_cons, List.foldl_nil]
      omega
  by_cases a3 : m < 1000
  · refine ⟨[48 + m / 10 / 10, 48 + m / 10 % 10, 48 + m % 10], by rw [dgF, if_pos (by omega), dgF, if_pos (by omega), dgF, if_neg (by omega)], by simp, ?_, ?_, ?_⟩
    · simp only [List.all_cons, List.all_nil, Bool.and_true, Bool.and_eq_true]
      exact ⟨isFig_k (by omega), isFig_k (by omega), isFig_k (by omega)⟩
    · simp
      omega
    · simp only [worth, List.foldl_cons, List.foldl_nil]
      omega
  · refine ⟨[48 + m / 10 / 10 / 10, 48 + m / 10 / 10 % 10, 48 + m / 10 % 10, 48 + m % 10], by rw [dgF, if_pos (by omega), dgF, if_pos (by omega), dgF, if_pos (by omega), dgF], by simp, ?_, ?_, ?_⟩
    · simp only [List.all_cons, List.all_nil, Bool.and_true, Bool.and_eq_true]
      exact ⟨isFig_k (by omega), isFig_k (by omega), isFig_k (by omega), isFig_k (by omega)⟩
    · simp
      omega
    · simp only [worth, List.foldl_cons, List.foldl_nil]
      omega
theorem okL_figs {f : List Nat} (h : f.all isFig = true) : okT f := fun c hc => by
  have hm : c ∈ figL := of_decide_eq_true (List.all_eq_true.mp h c hc)
  have : ∀ c ∈ figL, c < 0x110000 := by decide
  exact this c hm
theorem wd_ok {n : Int} (h1 : -9999 ≤ n) (h2 : n ≤ 9999) : rdN (wd n) = some n ∧ okT (wd n) ∧ (wd n).length ≤ 5 := by
  obtain ⟨f, e, b1, b2, b3, b4⟩ := dg_ok (m := n.natAbs) (by omega)
  unfold wd
  rw [e]
  split
  · rename_i hn
    refine ⟨by rw [rdN_neg b1 b2 (fun q => by have := (b3 q).1; omega), b4]; congr 1; omega, fun c hc => ?_, by rw [List.length_cons]; omega⟩
    rcases List.mem_cons.mp hc with e | e
    · subst e; decide
    · exact okL_figs b2 c e
  · exact ⟨by rw [rdN_pos b1 b2 (fun q => (b3 q).2), b4]; congr 1; omega, okL_figs b2, by omega⟩
theorem fl_bls {n : Nat} (bs : List Bool) : ∀ x ∈ bs.map D.bl, Fl n x := fun x hx => by
  obtain ⟨b, _, rfl⟩ := List.mem_map.mp hx
  exact .bl b
theorem imm_bls : ∀ l : List Bool, immDs (l.map D.bl) = true
  | [] => by rw [List.map_nil, immDs]
  | x :: l => by rw [List.map_cons, immDs, immD, imm_bls l]; rfl
theorem add_bls (a b : List Bool) (h : a.length + b.length ≤ 1000) : addD (.lst (a.map D.bl)) (.lst (b.map D.bl)) = .ok (.lst ((a ++ b).map D.bl)) := by
  unfold addD
  simp only
  rw [if_pos ⟨by rw [List.length_map, List.length_map, sizeLine_eq]; omega, imm_bls a, imm_bls b⟩, List.map_append]
theorem rep_bl (b : Bool) (k : Nat) (h : k ≤ 1000) : repD (.lst [.bl b]) (.int k) = .ok (.lst ((List.replicate k b).map D.bl)) := by
  unfold repD
  simp only
  rw [if_pos ⟨by omega, by simp [sizeLine_eq]; omega, by omega, imm_bls [b]⟩, Int.toNat_natCast]
  congr 2
  induction k with
  | zero => rfl
  | succ k ih => rw [List.replicate_succ, List.flatten_cons, ih (by omega), List.replicate_succ]; rfl
/-! words and lines -/
theorem numL_dg {n : Nat} (h : n < 10000) : TL.numL n = dgF 3 n [] := by
  by_cases a1 : n < 10
  · rw [TL.numL_lt a1, dgF, if_neg (by omega)]
  by_cases a2 : n < 100
  · rw [TL.numL_step (by omega), TL.numL_lt (by omega), dgF, if_pos (by omega), dgF, if_neg (by omega)]
    rfl
  by_cases a3 : n < 1000
  · rw [TL.numL_step (by omega), TL.numL_step (by omega), TL.numL_lt (by omega), dgF, if_pos (by omega), dgF, if_pos (by omega), dgF, if_neg (by omega)]
    rfl
  · rw [TL.numL_step (by omega), TL.numL_step (by omega), TL.numL_step (by omega), TL.numL_lt (by omega), dgF, if_pos (by omega), dgF, if_pos (by omega), dgF, if_pos (by omega), dgF]
    rfl
theorem tl_stL (l : List Nat) : TL.tl (stL l) = l := rfl
theorem sign_wd {n : Int} (h1 : -9999 ≤ n) (h2 : n ≤ 9999) : Str.ofString (toString n) = stL (wd n) := by
  refine TL.ext_tl ?_
  rw [tl_stL]
  unfold wd
  cases n with
  | ofNat m =>
    rw [if_neg (by show ¬ ((m : Int) < 0); omega)]
    have : m < 10000 := by have : (m : Int) ≤ 9999 := h2; omega
    rw [← numL_dg (n := (Int.ofNat m).natAbs) this]
    exact TL.tl_num m
  | negSucc m =>
    have hm : m + 1 < 10000 := by omega
    rw [if_pos (by omega), ← numL_dg (n := (Int.negSucc m).natAbs) (by show m + 1 < 10000; exact hm)]
    have e := TL.tl_num (m + 1)
    rw [TL.tl_ofString] at e ⊢
    show (("-" ++ toString (m + 1) : String).toList).map Char.toNat = 45 :: TL.numL (m + 1)
    rw [String.toList_append, List.map_append, ← e]
    rfl
theorem strD_wd {n : Int} (h1 : -9999 ≤ n) (h2 : n ≤ 9999) : strD [.int n] = .ok (.str (stL (wd n))) := by
  have hl : n.natAbs.log2 < 1920 := by
    by_cases e : n.natAbs = 0
    · rw [e, Nat.log2_zero]; decide
    · exact (Nat.log2_lt e).mpr (Nat.lt_of_lt_of_le (show n.natAbs < 2 ^ 14 by omega) (Nat.pow_le_pow_right (by decide) (by decide)))
  unfold strD
  simp only
  rw [if_pos hl]
  exact congrArg (fun z => R.ok (D.str z)) (sign_wd h1 h2)
theorem wd_sign {n : Int} (h1 : -9999 ≤ n) (h2 : n ≤ 9999) : ∀ c ∈ wd n, c = 45 ∨ (48 ≤ c ∧ c ≤ 57) := fun c hc => by
  have key : ∀ m : Nat, m < 10000 → ∀ c ∈ dgF 3 m [], 48 ≤ c ∧ c ≤ 57 := fun m hm c hc => by
    rw [← numL_dg hm] at hc
    exact TL.numL_digits m c hc
  unfold wd at hc
  split at hc
  · rcases List.mem_cons.mp hc with e | e
    · exact .inl e
    · exact .inr (key _ (by omega) c e)
  · exact .inr (key _ (by omega) c hc)
theorem wd_free {n : Int} (h1 : -9999 ≤ n) (h2 : n ≤ 9999) {c : Nat} (h : c ≠ 45 ∧ (c < 48 ∨ 57 < c)) : c ∉ wd n := fun hc => by
  have := wd_sign h1 h2 c hc
  omega
theorem joinL_mem {S : List Nat} {c : Nat} : ∀ {ws : List (List Nat)}, c ∈ TL.joinL S ws → c ∈ S ∨ ∃ w ∈ ws, c ∈ w
  | [], h => nomatch h
  | [p], h => .inr ⟨p, List.mem_singleton.mpr rfl, h⟩
  | p :: q :: r, h => by
    have h : c ∈ p ++ (S ++ TL.joinL S (q :: r)) := h
    rcases List.mem_append.mp h with h | h
    · exact .inr ⟨p, List.mem_cons_self, h⟩
    · rcases List.mem_append.mp h with h | h
      · exact .inl h
      · rcases joinL_mem h with h | ⟨w, hw, hc⟩
        · exact .inl h
        · exact .inr ⟨w, List.mem_cons_of_mem _ hw, hc⟩
theorem joinL_len (S : List Nat) : ∀ ws : List (List Nat), (TL.joinL S ws).length ≤ (ws.map List.length).sum + ws.length * S.length
  | [] => Nat.zero_le _
  | [p] => by simp [TL.joinL]
  | p :: q :: r => by
    have ih := joinL_len S (q :: r)
    show (p ++ (S ++ TL.joinL S (q :: r))).length ≤ _
    rw [List.length_append, List.length_append]
    simp only [List.map_cons, List.sum_cons, List.length_cons] at ih ⊢
    rw [Nat.succ_mul (r.length + 1)]
    omega
theorem sum_len_le {n : Nat} : ∀ {ws : List (List Nat)}, (∀ w ∈ ws, w.length ≤ n) → (ws.map List.length).sum ≤ ws.length * n
  | [], _ => Nat.zero_le _
  | w :: ws, h => by
    have ih := sum_len_le (ws := ws) fun v hv => h v (List.mem_cons_of_mem _ hv)
    have := h w List.mem_cons_self
    rw [List.map_cons, List.sum_cons, List.length_cons, Nat.succ_mul]
    omega
theorem join_stL (S : List Nat) (ws : List (List Nat)) : Txt.join (stL S) (ws.map stL) = stL (TL.joinL S ws) := by
  refine TL.ext_tl ?_
  rw [TL.join_eq, TL.tl_join, List.map_map, tl_stL, tl_stL]
  congr 1
  exact List.map_id _
theorem sum_len2 (ws : List (List Nat)) : ((ws.map stL).map (·.length)).sum = (ws.map List.length).sum := by
  rw [List.map_map]
  exact congrArg List.sum (List.map_congr_left fun w _ => stL_len w)
theorem joinG_st {S : List Nat} {ws : List (List Nat)} (h : (ws.map List.length).sum + ws.length * S.length ≤ 16000000) : joinG (stL S) (.lst (ws.map fun w => D.str (stL w))) = .ok (.str (stL (TL.joinL S ws))) := by
  rw [show (ws.map fun w => D.str (stL w)) = (ws.map stL).map D.str by rw [List.map_map]; rfl]
  unfold joinG
  simp only [strsO_map]
  rw [if_pos (by rw [sum_len2, List.length_map, stL_len]; omega), join_stL]
theorem splitG_sp {c : Nat} (hc : c < 256) {l : List Nat} (hl : l.length ≤ 16000000) : ∃ vs : List Str, splitG (stL l) (.str (stL [c])) = .ok (.lst (vs.map D.str)) ∧ vs.map TL.tl = TL.spl [c] 0 [] l := by
  have hk : (stL [c]).cps.all (· < 256) = true := by
    show (#[c] : Array Nat).all _ = true
    simpa using hc
  refine ⟨Txt.split (stL l) (stL [c]), ?_, TL.split_spl (stL l) (stL [c]) (by rw [tl_stL]; simp) (TL.kind_ok hk)⟩
  unfold splitG
  simp only
  rw [if_pos ⟨rfl, by rw [stL_len, sizeLine_eq]; omega⟩]
theorem strs_tl {vs : List Str} {ws : List (List Nat)} (h : vs.map TL.tl = ws) : vs = ws.map stL := by
  refine TL.map_tl_inj ?_
  rw [h, List.map_map]
  exact (List.map_id _).symm
theorem splitG_st {c : Nat} {ws : List (List Nat)} (hc : c < 256) (hne : ws ≠ []) (hw : ∀ w ∈ ws, c ∉ w) (hl : (TL.joinL [c] ws).length ≤ 16000000) : splitG (stL (TL.joinL [c] ws)) (.str (stL [c])) = .ok (.lst (ws.map fun w => D.str (stL w))) := by
  obtain ⟨vs, e, h⟩ := splitG_sp hc hl
  rw [TL.spl_join hne hw] at h
  rw [e, strs_tl h, List.map_map]
  rfl
/-! lifts as words -/
/-! comprehensions whose calls may raise -/
theorem lcXL_enc {α : Type} {e g : α → D} {vs : List Nat} {tf : D → Vs.Env → Option Vs.Env} {f : Vs.Env → R D} {ρ : Vs.Env} : ∀ {xs : List α}, (∀ x ∈ xs, ∃ ρ1, tf (e x) (wipeD ρ vs) = some ρ1 ∧ f ρ1 = .ok (g x)) → lcXL vs tf f ρ (xs.map e) = .ok (xs.map g)
  | [], _ => rfl
  | x :: xs, h => by
    obtain ⟨ρ1, e1, e2⟩ := h x List.mem_cons_self
    rw [List.map_cons, lcXL, e1]
    simp only
    rw [e2, R.bind_ok, lcXL_enc (xs := xs) fun y m => h y (List.mem_cons_of_mem _ m), R.bind_ok]
    rfl
theorem lcXE_enc {α : Type} {e g : α → D} {vs : List Nat} {fi : Vs.Env → R (List D)} {tf : D → Vs.Env → Option Vs.Env} {f : Vs.Env → R D} {ρ : Vs.Env} {xs : List α} (hi : fi ρ = .ok (xs.map e)) (hl : xs.length ≤ 16000000) (h : ∀ x ∈ xs, ∃ ρ1, tf (e x) (wipeD ρ vs) = some ρ1 ∧ f ρ1 = .ok (g x)) :
    lcXE vs fi tf f ρ = .ok (.lst (xs.map g)) := by
  unfold lcXE
  rw [hi, R.bind_ok, if_pos (by rw [List.length_map, sizeLine_eq]; omega), lcXL_enc h, R.bind_ok]
theorem lcXL_ex {α : Type} {e : α → D} {c : Str} {vs : List Nat} {tf : D → Vs.Env → Option Vs.Env} {f : Vs.Env → R D} {ρ : Vs.Env} : ∀ {xs : List α}, (∀ x ∈ xs, ∃ ρ1, tf (e x) (wipeD ρ vs) = some ρ1 ∧ (f ρ1 = .ex c ∨ ∃ d, f ρ1 = .ok d)) → (∃ x ∈ xs, ∀ ρ1, tf (e x) (wipeD ρ vs) = some ρ1 → f ρ1 = .ex c) → lcXL vs tf f ρ (xs.map e) = .ex c
  | [], _, h => by obtain ⟨x, m, _⟩ := h; cases m
  | x :: xs, h, k => by
    obtain ⟨ρ1, e1, e2⟩ := h x List.mem_cons_self
    rw [List.map_cons, lcXL, e1]
    simp only
    rcases e2 with e2 | ⟨d, e2⟩
    · rw [e2]; rfl
    · have k2 : ∃ y ∈ xs, ∀ ρ1, tf (e y) (wipeD ρ vs) = some ρ1 → f ρ1 = .ex c := by
        obtain ⟨y, m, q⟩ := k
        rcases List.mem_cons.mp m with rfl | m
        · rw [q ρ1 e1] at e2; cases e2
        · exact ⟨y, m, q⟩
      rw [e2, R.bind_ok, lcXL_ex (xs := xs) (fun y m => h y (List.mem_cons_of_mem _ m)) k2]
      rfl
theorem lcXE_ex {α : Type} {e : α → D} {c : Str} {vs : List Nat} {fi : Vs.Env → R (List D)} {tf : D → Vs.Env → Option Vs.Env} {f : Vs.Env → R D} {ρ : Vs.Env} {xs : List α} (hi : fi ρ = .ok (xs.map e)) (hl : xs.length ≤ 16000000) (h : ∀ x ∈ xs, ∃ ρ1, tf (e x) (wipeD ρ vs) = some ρ1 ∧ (f ρ1 = .ex c ∨ ∃ d, f ρ1 = .ok d)) (k : ∃ x ∈ xs, ∀ ρ1, tf (e x) (wipeD ρ vs) = some ρ1 → f ρ1 = .ex c) :
    lcXE vs fi tf f ρ = .ex c := by
  unfold lcXE
  rw [hi, R.bind_ok, if_pos (by rw [List.length_map, sizeLine_eq]; omega), lcXL_ex h k]
  rfl
end Lw
namespace Lw
open PySem PySem.Spec PyProof.Rows L2 Vs
local macro_rules | `(tactic| walk_at "ev") => `(tactic| try simp -implicitDefEqProofs only [seqS_eq, seq_nx, seq_rt, seq_st, seq_bk, seq_ct, seq_ex, seq_ite, body_nx, body_rt, body_ex, body_ite, bindS_ok, bindS_st, bindS_ex, bindS_ite, bind_ite, R.bind_ok, R.bind_st, R.bind_ex, var0, varS, retV0, retVS, asgS, cE, op2, negE, negD_int, imm, immD_int, immD_bl, immD_str, immD_non, immD_tup, immDs_nil, immDs_cons, addD_int, subD_int, mulD_ok, fdivD_pos, modD_pos, powD_ok, shlD_ok, shrD_ok, ltD_int, leD_int, gtD_int, geD_int, eqD_int, neD_int, boolR, andT, orT, notT, andE, orE, notE, ifS, retS, retNS, nilS, callB, callF, consA, nilA, lenD_lst, lenD_tup, len_0, len_1, len_2, len_3, absD_int, Int.reduceEq, not_true, not_false_eq_true, ne_eq, neD_int, eqD_pair, neD_pair, maxD_int, minD_int, maxD_l2, minD_l2, List.set_cons_zero, List.set_cons_succ, isiE, chD_eq, chK_bl, ite_bl, eqD_bl, decide_true, decide_false, if_true, if_false, ite_true, ite_false, Bool.not_true, Bool.not_false, decide_eq_true_eq, Bool.not_eq_true', decide_eq_false_iff_not, Bool.false_eq_true, Bool.true_eq_false, exprS, reduceIte, tupE, lstE, List.length_map, isD, isNotD, isNonB, ix0_lst, ix0_tup, ix1_lst, ix1_tup, ix2_lst, ix2_tup, ix3_lst, ix3_tup, ix4_lst, ix4_tup, ix5_lst, ix5_tup, Go_nx, Go_ct, Int.reduceLT, Int.reduceLE, Int.reduceNeg, Int.reduceSub, Int.reduceAdd, Int.reduceMul, Int.reduceToNat, Nat.reduceLT, Nat.reduceLeDiff, Nat.reducePow, Bool.and_true, Bool.and_false, Bool.true_and, Bool.false_and, isT_int_non, isT_int_bl, isT_int_int, isT_int_str, isT_int_lst, isT_int_tup, isT_bool_non, isT_bool_bl, isT_bool_int, isT_bool_str, isT_bool_lst, isT_bool_tup, isT_str_non, isT_str_bl, isT_str_int, isT_str_str, isT_str_lst, isT_str_tup, isT_list_non, isT_list_bl, isT_list_int, isT_list_str, isT_list_lst, isT_list_tup, isT_tuple_non, isT_tuple_bl, isT_tuple_int, isT_tuple_str, isT_tuple_lst, isT_tuple_tup])
/-! tests, by what they ask -/
theorem op2_v {g : D → D → R D} {f k : Vs.Env → R D} {ρ : Vs.Env} {x y : D} (hf : f ρ = .ok x) (hk : k ρ = .ok y) : op2 g f k ρ = g x y := by
  unfold op2
  rw [hf, Vs.R.bind_ok, hk, Vs.R.bind_ok]
theorem orT_b {f g : Vs.Env → R Bool} {ρ : Vs.Env} {a b : Bool} (h1 : f ρ = .ok a) (h2 : g ρ = .ok b) : orT f g ρ = .ok (a || b) := by
  unfold orT
  rw [h1, Vs.R.bind_ok]
  cases a
  · rw [if_neg (by decide)]; exact h2
  · rfl
theorem andT_b {f g : Vs.Env → R Bool} {ρ : Vs.Env} {a b : Bool} (h1 : f ρ = .ok a) (h2 : g ρ = .ok b) : andT f g ρ = .ok (a && b) := by
  unfold andT
  rw [h1, Vs.R.bind_ok]
  cases a
  · rfl
  · rw [if_pos rfl]; exact h2
theorem boolR_b {f : Vs.Env → R D} {ρ : Vs.Env} {a : Bool} (h : f ρ = .ok (.bl a)) : boolR f ρ = .ok a := by
  unfold boolR
  rw [h]
  rfl
theorem boolR_2 {g : D → D → R D} {f k : Vs.Env → R D} {ρ : Vs.Env} {x y : D} {a : Bool} (hf : f ρ = .ok x) (hk : k ρ = .ok y) (h : g x y = .ok (.bl a)) : boolR (op2 g f k) ρ = .ok a := boolR_b (by rw [op2_v hf hk, h])
theorem andE_b {f g : Vs.Env → R D} {ρ : Vs.Env} {a b : Bool} (h1 : f ρ = .ok (.bl a)) (h2 : g ρ = .ok (.bl b)) : andE f g ρ = .ok (.bl (a && b)) := by
  unfold andE
  rw [boolR_b h1, Vs.R.bind_ok]
  cases a
  · rfl
  · rw [if_pos rfl]; exact h2
theorem orE_b {f g : Vs.Env → R D} {ρ : Vs.Env} {a b : Bool} (h1 : f ρ = .ok (.bl a)) (h2 : g ρ = .ok (.bl b)) : orE f g ρ = .ok (.bl (a || b)) := by
  unfold orE
  rw [boolR_b h1, Vs.R.bind_ok]
  cases a
  · rw [if_neg (by decide)]; exact h2
  · rfl
theorem notT_b {f : Vs.Env → R Bool} {ρ : Vs.Env} {a : Bool} (h : f ρ = .ok a) : notT f ρ = .ok (!a) := by
  unfold notT
  rw [h, Vs.R.bind_ok]
theorem bits_times {a b : Nat} {x y : Int} (h : Bits a x) (k : Bits b y) : Bits (a + b) (x * y) := ⟨by
  rw [Int.natAbs_mul, Nat.pow_add]
  exact Nat.mul_lt_mul_of_lt_of_le h.lt (Nat.le_of_lt k.lt) (Nat.pow_pos (by decide))⟩
theorem cutL_none {α : Type} {xs : List α} {k : Nat} : cutL xs none (some (k : Int)) = xs.take k := by
  unfold cutL
  rw [HT.sIx_nat]
  show (xs.drop 0).take (min k xs.length - 0) = _
  rw [List.drop_zero, Nat.sub_zero, ← List.take_eq_take_min]
theorem cutL_some {α : Type} {xs : List α} {k : Nat} : cutL xs (some (k : Int)) none = xs.drop k := by
  unfold cutL
  rw [HT.sIx_nat]
  show (xs.drop (min k xs.length)).take (xs.length - min k xs.length) = _
  rw [List.take_of_length_le (by rw [List.length_drop]; omega)]
  by_cases h : k ≤ xs.length
  · rw [Nat.min_eq_left h]
  · rw [Nat.min_eq_right (by omega), List.drop_length, List.drop_of_length_le (by omega)]

/-! calls and displays by their parts -/
theorem al1 {ρ : Vs.Env} {a : Vs.Env → R D} {x0 : D} (h0 : a ρ = .ok x0) : consA a nilA ρ = .ok [x0] := by
  unfold consA nilA
  simp only [h0, Vs.R.bind_ok]
theorem al2 {ρ : Vs.Env} {a b : Vs.Env → R D} {x0 x1 : D} (h0 : a ρ = .ok x0) (h1 : b ρ = .ok x1) : consA a (consA b nilA) ρ = .ok [x0, x1] := by
  unfold consA nilA
  simp only [h0, h1, Vs.R.bind_ok]
theorem al3 {ρ : Vs.Env} {a b c : Vs.Env → R D} {x0 x1 x2 : D} (h0 : a ρ = .ok x0) (h1 : b ρ = .ok x1) (h2 : c ρ = .ok x2) : consA a (consA b (consA c nilA)) ρ = .ok [x0, x1, x2] := by
  unfold consA nilA
  simp only [h0, h1, h2, Vs.R.bind_ok]
theorem al4 {ρ : Vs.Env} {a b c d : Vs.Env → R D} {x0 x1 x2 x3 : D} (h0 : a ρ = .ok x0) (h1 : b ρ = .ok x1) (h2 : c ρ = .ok x2) (h3 : d ρ = .ok x3) : consA a (consA b (consA c (consA d nilA))) ρ = .ok [x0, x1, x2, x3] := by
  unfold consA nilA
  simp only [h0, h1, h2, h3, Vs.R.bind_ok]
theorem al5 {ρ : Vs.Env} {a b c d e : Vs.Env → R D} {x0 x1 x2 x3 x4 : D} (h0 : a ρ = .ok x0) (h1 : b ρ = .ok x1) (h2 : c ρ = .ok x2) (h3 : d ρ = .ok x3) (h4 : e ρ = .ok x4) : consA a (consA b (consA c (consA d (consA e nilA)))) ρ = .ok [x0, x1, x2, x3, x4] := by
  unfold consA nilA
  simp only [h0, h1, h2, h3, h4, Vs.R.bind_ok]
theorem al6 {ρ : Vs.Env} {a b c d e f : Vs.Env → R D} {x0 x1 x2 x3 x4 x5 : D} (h0 : a ρ = .ok x0) (h1 : b ρ = .ok x1) (h2 : c ρ = .ok x2) (h3 : d ρ = .ok x3) (h4 : e ρ = .ok x4) (h5 : f ρ = .ok x5) : consA a (consA b (consA c (consA d (consA e (consA f nilA))))) ρ = .ok [x0, x1, x2, x3, x4, x5] := by
  unfold consA nilA
  simp only [h0, h1, h2, h3, h4, h5, Vs.R.bind_ok]
theorem al7 {ρ : Vs.Env} {a b c d e f g : Vs.Env → R D} {x0 x1 x2 x3 x4 x5 x6 : D} (h0 : a ρ = .ok x0) (h1 : b ρ = .ok x1) (h2 : c ρ = .ok x2) (h3 : d ρ = .ok x3) (h4 : e ρ = .ok x4) (h5 : f ρ = .ok x5) (h6 : g ρ = .ok x6) : consA a (consA b (consA c (consA d (consA e (consA f (consA g nilA)))))) ρ = .ok [x0, x1, x2, x3, x4, x5, x6] := by
  unfold consA nilA
  simp only [h0, h1, h2, h3, h4, h5, h6, Vs.R.bind_ok]
theorem cf1 {ρ : Vs.Env} {m : List D → R D} {a : Vs.Env → R D} {x0 : D} (h0 : a ρ = .ok x0) : callF m (consA a nilA) ρ = m [x0] := by
  unfold callF
  rw [al1 h0, Vs.R.bind_ok]
theorem cb1_ {ρ : Vs.Env} {m : List D → R D} {a : Vs.Env → R D} {x0 : D} (h0 : a ρ = .ok x0) : callB m (consA a nilA) ρ = m [x0] := by
  unfold callB
  rw [al1 h0, Vs.R.bind_ok]
theorem le1 {ρ : Vs.Env} {a : Vs.Env → R D} {x0 : D} (h0 : a ρ = .ok x0) : lstE (consA a nilA) ρ = .ok (.lst [x0]) := by
  unfold lstE
  rw [al1 h0, Vs.R.bind_ok]
theorem te1 {ρ : Vs.Env} {a : Vs.Env → R D} {x0 : D} (h0 : a ρ = .ok x0) : tupE (consA a nilA) ρ = .ok (.tup [x0]) := by
  unfold tupE
  rw [al1 h0, Vs.R.bind_ok]
theorem cf2 {ρ : Vs.Env} {m : List D → R D} {a b : Vs.Env → R D} {x0 x1 : D} (h0 : a ρ = .ok x0) (h1 : b ρ = .ok x1) : callF m (consA a (consA b nilA)) ρ = m [x0, x1] := by
  unfold callF
  rw [al2 h0 h1, Vs.R.bind_ok]
theorem cb2_ {ρ : Vs.Env} {m : List D → R D} {a b : Vs.Env → R D} {x0 x1 : D} (h0 : a ρ = .ok x0) (h1 : b ρ = .ok x1) : callB m (consA a (consA b nilA)) ρ = m [x0, x1] := by
  unfold callB
  rw [al2 h0 h1, Vs.R.bind_ok]
theorem le2 {ρ : Vs.Env} {a b : Vs.Env → R D} {x0 x1 : D} (h0 : a ρ = .ok x0) (h1 : b ρ = .ok x1) : lstE (consA a (consA b nilA)) ρ = .ok (.lst [x0, x1]) := by
  unfold lstE
  rw [al2 h0 h1, Vs.R.bind_ok]
theorem te2 {ρ : Vs.Env} {a b : Vs.Env → R D} {x0 x1 : D} (h0 : a ρ = .ok x0) (h1 : b ρ = .ok x1) : tupE (consA a (consA b nilA)) ρ = .ok (.tup [x0, x1]) := by
  unfold tupE
  rw [al2 h0 h1, Vs.R.bind_ok]
theorem cf3 {ρ : Vs.Env} {m : List D → R D} {a b c : Vs.Env → R D} {x0 x1 x2 : D} (h0 : a ρ = .ok x0) (h1 : b ρ = .ok x1) (h2 : c ρ = .ok x2) : callF m (consA a (consA b (consA c nilA))) ρ = m [x0, x1, x2] := by
  unfold callF
  rw [al3 h0 h1 h2, Vs.R.bind_ok]
theorem cb3_ {ρ : Vs.Env} {m : List D → R D} {a b c : Vs.Env → R D} {x0 x1 x2 : D} (h0 : a ρ = .ok x0) (h1 : b ρ = .ok x1) (h2 : c ρ = .ok x2) : callB m (consA a (consA b (consA c nilA))) ρ = m [x0, x1, x2] := by
  unfold callB
  rw [al3 h0 h1 h2, Vs.R.bind_ok]
theorem le3 {ρ : Vs.Env} {a b c : Vs.Env → R D} {x0 x1 x2 : D} (h0 : a ρ = .ok x0) (h1 : b ρ = .ok x1) (h2 : c ρ = .ok x2) : lstE (consA a (consA b (consA c nilA))) ρ = .ok (.lst [x0, x1, x2]) := by
  unfold lstE
  rw [al3 h0 h1 h2, Vs.R.bind_ok]
theorem te3 {ρ : Vs.Env} {a b c : Vs.Env → R D} {x0 x1 x2 : D} (h0 : a ρ = .ok x0) (h1 : b ρ = .ok x1) (h2 : c ρ = .ok x2) : tupE (consA a (consA b (consA c nilA))) ρ = .ok (.tup [x0, x1, x2]) := by
  unfold tupE
  rw [al3 h0 h1 h2, Vs.R.bind_ok]
theorem cf4 {ρ : Vs.Env} {m : List D → R D} {a b c d : Vs.Env → R D} {x0 x1 x2 x3 : D} (h0 : a ρ = .ok x0) (h1 : b ρ = .ok x1) (h2 : c ρ = .ok x2) (h3 : d ρ = .ok x3) : callF m (consA a (consA b (consA c (consA d nilA)))) ρ = m [x0, x1, x2, x3] := by
  unfold callF
  rw [al4 h0 h1 h2 h3, Vs.R.bind_ok]
theorem cb4_ {ρ : Vs.Env} {m : List D → R D} {a b c d : Vs.Env → R D} {x0 x1 x2 x3 : D} (h0 : a ρ = .ok x0) (h1 : b ρ = .ok x1) (h2 : c ρ = .ok x2) (h3 : d ρ = .ok x3) : callB m (consA a (consA b (consA c (consA d nilA)))) ρ = m [x0, x1, x2, x3] := by
  unfold callB
  rw [al4 h0 h1 h2 h3, Vs.R.bind_ok]
theorem le4 {ρ : Vs.Env} {a b c d : Vs.Env → R D} {x0 x1 x2 x3 : D} (h0 : a ρ = .ok x0) (h1 : b ρ = .ok x1) (h2 : c ρ = .ok x2) (h3 : d ρ = .ok x3) : lstE (consA a (consA b (consA c (consA d nilA)))) ρ = .ok (.lst [x0, x1, x2, x3]) := by
  unfold lstE
  rw [al4 h0 h1 h2 h3, Vs.R.bind_ok]
theorem te4 {ρ : Vs.Env} {a b c d : Vs.Env → R D} {x0 x1 x2 x3 : D} (h0 : a ρ = .ok x0) (h1 : b ρ = .ok x1) (h2 : c ρ = .ok x2) (h3 : d ρ = .ok x3) : tupE (consA a (consA b (consA c (consA d nilA)))) ρ = .ok (.tup [x0, x1, x2, x3]) := by
  unfold tupE
  rw [al4 h0 h1 h2 h3, Vs.R.bind_ok]
theorem cf5 {ρ : Vs.Env} {m : List D → R D} {a b c d e : Vs.Env → R D} {x0 x1 x2 x3 x4 : D} (h0 : a ρ = .ok x0) (h1 : b ρ = .ok x1) (h2 : c ρ = .ok x2) (h3 : d ρ = .ok x3) (h4 : e ρ = .ok x4) : callF m (consA a (consA b (consA c (consA d (consA e nilA))))) ρ = m [x0, x1, x2, x3, x4] := by
  unfold callF
  rw [al5 h0 h1 h2 h3 h4, Vs.R.bind_ok]
theorem cb5_ {ρ : Vs.Env} {m : List D → R D} {a b c d e : Vs.Env → R D} {x0 x1 x2 x3 x4 : D} (h0 : a ρ = .ok x0) (h1 : b ρ = .ok x1) (h2 : c ρ = .ok x2) (h3 : d ρ = .ok x3) (h4 : e ρ = .ok x4) : callB m (consA a (consA b (consA c (consA d (consA e nilA))))) ρ = m [x0, x1, x2, x3, x4] := by
  unfold callB
  rw [al5 h0 h1 h2 h3 h4, Vs.R.bind_ok]
theorem le5 {ρ : Vs.Env} {a b c d e : Vs.Env → R D} {x0 x1 x2 x3 x4 : D} (h0 : a ρ = .ok x0) (h1 : b ρ = .ok x1) (h2 : c ρ = .ok x2) (h3 : d ρ = .ok x3) (h4 : e ρ = .ok x4) : lstE (consA a (consA b (consA c (consA d (consA e nilA))))) ρ = .ok (.lst [x0, x1, x2, x3, x4]) := by
  unfold lstE
  rw [al5 h0 h1 h2 h3 h4, Vs.R.bind_ok]
theorem te5 {ρ : Vs.Env} {a b c d e : Vs.Env → R D} {x0 x1 x2 x3 x4 : D} (h0 : a ρ = .ok x0) (h1 : b ρ = .ok x1) (h2 : c ρ = .ok x2) (h3 : d ρ = .ok x3) (h4 : e ρ = .ok x4) : tupE (consA a (consA b (consA c (consA d (consA e nilA))))) ρ = .ok (.tup [x0, x1, x2, x3, x4]) := by
  unfold tupE
  rw [al5 h0 h1 h2 h3 h4, Vs.R.bind_ok]
theorem cf6 {ρ : Vs.Env} {m : List D → R D} {a b c d e f : Vs.Env → R D} {x0 x1 x2 x3 x4 x5 : D} (h0 : a ρ = .ok x0) (h1 : b ρ = .ok x1) (h2 : c ρ = .ok x2) (h3 : d ρ = .ok x3) (h4 : e ρ = .ok x4) (h5 : f ρ = .ok x5) : callF m (consA a (consA b (consA c (consA d (consA e (consA f nilA)))))) ρ = m [x0, x1, x2, x3, x4, x5] := by
  unfold callF
  rw [al6 h0 h1 h2 h3 h4 h5, Vs.R.bind_ok]
theorem cb6_ {ρ : Vs.Env} {m : List D → R D} {a b c d e f : Vs.Env → R D} {x0 x1 x2 x3 x4 x5 : D} (h0 : a ρ = .ok x0) (h1 : b ρ = .ok x1) (h2 : c ρ = .ok x2) (h3 : d ρ = .ok x3) (h4 : e ρ = .ok x4) (h5 : f ρ = .ok x5) : callB m (consA a (consA b (consA c (consA d (consA e (consA f nilA)))))) ρ = m [x0, x1, x2, x3, x4, x5] := by
  unfold callB
  rw [al6 h0 h1 h2 h3 h4 h5, Vs.R.bind_ok]
theorem le6 {ρ : Vs.Env} {a b c d e f : Vs.Env → R D} {x0 x1 x2 x3 x4 x5 : D} (h0 : a ρ = .ok x0) (h1 : b ρ = .ok x1) (h2 : c ρ = .ok x2) (h3 : d ρ = .ok x3) (h4 : e ρ = .ok x4) (h5 : f ρ = .ok x5) : lstE (consA a (consA b (consA c (consA d (consA e (consA f nilA)))))) ρ = .ok (.lst [x0, x1, x2, x3, x4, x5]) := by
  unfold lstE
  rw [al6 h0 h1 h2 h3 h4 h5, Vs.R.bind_ok]
theorem te6 {ρ : Vs.Env} {a b c d e f : Vs.Env → R D} {x0 x1 x2 x3 x4 x5 : D} (h0 : a ρ = .ok x0) (h1 : b ρ = .ok x1) (h2 : c ρ = .ok x2) (h3 : d ρ = .ok x3) (h4 : e ρ = .ok x4) (h5 : f ρ = .ok x5) : tupE (consA a (consA b (consA c (consA d (consA e (consA f nilA)))))) ρ = .ok (.tup [x0, x1, x2, x3, x4, x5]) := by
  unfold tupE
  rw [al6 h0 h1 h2 h3 h4 h5, Vs.R.bind_ok]
theorem cf7 {ρ : Vs.Env} {m : List D → R D} {a b c d e f g : Vs.Env → R D} {x0 x1 x2 x3 x4 x5 x6 : D} (h0 : a ρ = .ok x0) (h1 : b ρ = .ok x1) (h2 : c ρ = .ok x2) (h3 : d ρ = .ok x3) (h4 : e ρ = .ok x4) (h5 : f ρ = .ok x5) (h6 : g ρ = .ok x6) : callF m (consA a (consA b (consA c (consA d (consA e (consA f (consA g nilA))))))) ρ = m [x0, x1, x2, x3, x4, x5, x6] := by
  unfold callF
  rw [al7 h0 h1 h2 h3 h4 h5 h6, Vs.R.bind_ok]
theorem cb7_ {ρ : Vs.Env} {m : List D → R D} {a b c d e f g : Vs.Env → R D} {x0 x1 x2 x3 x4 x5 x6 : D} (h0 : a ρ = .ok x0) (h1 : b ρ = .ok x1) (h2 : c ρ = .ok x2) (h3 : d ρ = .ok x3) (h4 : e ρ = .ok x4) (h5 : f ρ = .ok x5) (h6 : g ρ = .ok x6) : callB m (consA a (consA b (consA c (consA d (consA e (consA f (consA g nilA))))))) ρ = m [x0, x1, x2, x3, x4, x5, x6] := by
  unfold callB
  rw [al7 h0 h1 h2 h3 h4 h5 h6, Vs.R.bind_ok]
theorem le7 {ρ : Vs.Env} {a b c d e f g : Vs.Env → R D} {x0 x1 x2 x3 x4 x5 x6 : D} (h0 : a ρ = .ok x0) (h1 : b ρ = .ok x1) (h2 : c ρ = .ok x2) (h3 : d ρ = .ok x3) (h4 : e ρ = .ok x4) (h5 : f ρ = .ok x5) (h6 : g ρ = .ok x6) : lstE (consA a (consA b (consA c (consA d (consA e (consA f (consA g nilA))))))) ρ = .ok (.lst [x0, x1, x2, x3, x4, x5, x6]) := by
  unfold lstE
  rw [al7 h0 h1 h2 h3 h4 h5 h6, Vs.R.bind_ok]
theorem te7 {ρ : Vs.Env} {a b c d e f g : Vs.Env → R D} {x0 x1 x2 x3 x4 x5 x6 : D} (h0 : a ρ = .ok x0) (h1 : b ρ = .ok x1) (h2 : c ρ = .ok x2) (h3 : d ρ = .ok x3) (h4 : e ρ = .ok x4) (h5 : f ρ = .ok x5) (h6 : g ρ = .ok x6) : tupE (consA a (consA b (consA c (consA d (consA e (consA f (consA g nilA))))))) ρ = .ok (.tup [x0, x1, x2, x3, x4, x5, x6]) := by
  unfold tupE
  rw [al7 h0 h1 h2 h3 h4 h5 h6, Vs.R.bind_ok]
theorem cd2 {ρ : Vs.Env} {m : List D → R D} {ds : List D} {a b : Vs.Env → R D} {x0 x1 : D} (h0 : a ρ = .ok x0) (h1 : b ρ = .ok x1) : callF m (dflA (consA a (consA b nilA)) ds) ρ = m ([x0, x1] ++ ds) := by
  unfold callF dflA
  rw [al2 h0 h1, Vs.R.bind_ok, Vs.R.bind_ok]
theorem cd3 {ρ : Vs.Env} {m : List D → R D} {ds : List D} {a b c : Vs.Env → R D} {x0 x1 x2 : D} (h0 : a ρ = .ok x0) (h1 : b ρ = .ok x1) (h2 : c ρ = .ok x2) : callF m (dflA (consA a (consA b (consA c nilA))) ds) ρ = m ([x0, x1, x2] ++ ds) := by
  unfold callF dflA
  rw [al3 h0 h1 h2, Vs.R.bind_ok, Vs.R.bind_ok]
theorem cd4 {ρ : Vs.Env} {m : List D → R D} {ds : List D} {a b c d : Vs.Env → R D} {x0 x1 x2 x3 : D} (h0 : a ρ = .ok x0) (h1 : b ρ = .ok x1) (h2 : c ρ = .ok x2) (h3 : d ρ = .ok x3) : callF m (dflA (consA a (consA b (consA c (consA d nilA)))) ds) ρ = m ([x0, x1, x2, x3] ++ ds) := by
  unfold callF dflA
  rw [al4 h0 h1 h2 h3, Vs.R.bind_ok, Vs.R.bind_ok]
theorem imm_ok {f : Vs.Env → R D} {ρ : Vs.Env} {d : D} (h : f ρ = .ok d) (m : immD d = true) : imm f ρ = .ok d := by
  unfold imm
  rw [h, Vs.R.bind_ok, if_pos m]
theorem ret_ok {f : Vs.Env → R D} {ρ : Vs.Env} {d : D} (h : f ρ = .ok d) : retS f ρ = .rt d := by
  unfold retS
  rw [h]
  rfl
theorem ite_ok {f : Vs.Env → R D} {ρ : Vs.Env} {d : D} (h : f ρ = .ok d) : itV itemsR f ρ = itemsR d := by
  unfold itV
  rw [h, Vs.R.bind_ok]
theorem th_ok {f : Vs.Env → R D} {ρ : Vs.Env} {d : D} (h : f ρ = .ok d) : thawE f ρ = .ok (thaw d) := by
  unfold thawE
  rw [h, Vs.R.bind_ok]

/-! k49: rows read -/
theorem ifS_b {t : Vs.Env → R Bool} {a c : Vs.Env → Sr} {ρ : Vs.Env} {b : Bool} (h : t ρ = .ok b) : ifS t a c ρ = if b = true then a ρ else c ρ := by
  unfold ifS
  rw [h, bindS_ok]
def kwL : Nat → List Nat
  | 0 => [115, 105, 122, 101]
  | 1 => [98, 105, 116, 115]
  | 2 => [98, 114, 111, 97, 100]
  | 3 => [97, 108, 108]
  | 4 => [97, 116]
  | 5 => [108, 101, 118, 101, 108]
  | _ => [112, 105, 101, 99, 101]
def cnt : Nat → Nat
  | 4 => 2
  | 5 => 1
  | 6 => 4
  | _ => 0
def clsK : Nat → Str
  | 0 => "Size"
  | 1 => "Bits"
  | 2 => "Broad"
  | 3 => "All"
  | 4 => "At"
  | 5 => "Level"
  | _ => "Piece"
theorem lit0 : (Str.ofString "size") = stL (kwL 0) := by decide +kernel
theorem lit1 : (Str.ofString "bits") = stL (kwL 1) := by decide +kernel
theorem lit2 : (Str.ofString "broad") = stL (kwL 2) := by decide +kernel
theorem lit3 : (Str.ofString "all") = stL (kwL 3) := by decide +kernel
theorem lit4 : (Str.ofString "at") = stL (kwL 4) := by decide +kernel
theorem lit5 : (Str.ofString "level") = stL (kwL 5) := by decide +kernel
theorem lit6 : (Str.ofString "piece") = stL (kwL 6) := by decide +kernel
theorem litB : (Str.ofString " ") = stL [32] := by decide +kernel
def aq (w : List Nat) : Option Int := match rdN w with
  | some n => if n < 0 then none else some n
  | none => none
theorem asked_ok {w : List Nat} (hw : okT w) (hl : w.length ≤ 1000) : m_asked_number [.str (stL w)] = match aq w with | some n => .ok (.int n) | none => .ex "NoRow" := by
  rw [r_asked_number]
  simp only [b_asked_number]
  rw [seqS_eq, asg_ok (d := .int (-1)) (by rfl), seq_nx]
  simp only [List.set_cons_zero, List.set_cons_succ]
  rw [seqS_eq]
  have er := readn_ok hw hl
  unfold aq
  cases e : rdN w with
  | none =>
    rw [e] at er
    have e1 : asgS 1 (callF m_read_number (consA (varE 0) nilA)) [some (.str (stL w)), some (.int (-1))] = .ex "NoText" [some (.str (stL w)), some (.int (-1))] := by
      unfold asgS
      rw [(cf1 (by rfl)).trans er]
      rfl
    unfold tryRS
    rw [e1]
    simp only
    rw [show tb_NoText.lookup (Str.ofString "NoText") = some true by decide +kernel]
    rfl
  | some n =>
    rw [e] at er
    have e1 : asgS 1 (callF m_read_number (consA (varE 0) nilA)) [some (.str (stL w)), some (.int (-1))] = .nx [some (.str (stL w)), some (.int n)] := asg_ok ((cf1 (by rfl)).trans er)
    unfold tryRS
    rw [e1]
    simp only
    rw [seq_nx, seqS_eq, ifS_b (b := decide (n < 0)) (boolR_2 (x := .int n) (y := .int 0) rfl rfl (ltD_int _ _))]
    by_cases c : n < 0
    · rw [if_pos (decide_eq_true c), if_pos c]
      rfl
    · rw [if_neg (by rw [decide_eq_false c]; decide), if_neg c]
      rfl
/-- a word of a row -/
structure okW (w : List Nat) : Prop where
  sp : 32 ∉ w
  ch : okT w
  ln : w.length ≤ 1000
def rowS (ws : List (List Nat)) : D := .str (stL (TL.joinL [32] ws))
theorem row_len {ws : List (List Nat)} (h : ∀ w ∈ ws, okW w) (hl : ws.length ≤ 100) : (TL.joinL [32] ws).length ≤ 200000 := by
  have h1 := joinL_len [32] ws
  have h2 := sum_len_le (n := 1000) (ws := ws) fun w hw => (h w hw).ln
  have h3 : ws.length * 1000 ≤ 100 * 1000 := Nat.mul_le_mul_right _ hl
  simp only [List.length_cons, List.length_nil] at h1
  omega
theorem row_ok {ws : List (List Nat)} (h : ∀ w ∈ ws, okW w) : okT (TL.joinL [32] ws) := fun c hc => by
  rcases joinL_mem hc with z | ⟨w, hw, z⟩
  · rw [List.mem_singleton.mp z]; decide
  · exact (h w hw).ch c z
theorem tail_sl {ws : List (List Nat)} {w0 : List Nat} {ρ : Vs.Env} {f : Vs.Env → R D} (hf : f ρ = .ok (.lst ((w0 :: ws).map fun w => D.str (stL w)))) (hl : ws.length ≤ 100) : slG f (someO (cE (.int 1))) noO ρ = .ok (.lst (ws.map fun w => D.str (stL w))) := by
  unfold slG slE
  rw [hf, Vs.R.bind_ok]
  show (((Vs.R.ok (some (1 : Int))).bind fun l => (Vs.R.ok none).bind fun u => _)).bind immL = _
  rw [Vs.R.bind_ok, Vs.R.bind_ok]
  show (Vs.R.ok (D.lst (cutL _ (some ((1 : Nat) : Int)) none))).bind immL = _
  rw [cutL_suf, List.map_cons, List.drop_one, List.tail_cons, Vs.R.bind_ok]
  unfold immL
  simp only
  have : ∀ xs : List (List Nat), immDs (xs.map fun w => D.str (stL w)) = true := by
    intro xs
    induction xs with
    | nil => rw [List.map_nil, immDs]
    | cons x xs ih => rw [List.map_cons, immDs, ih, immD_str]; rfl
  rw [if_pos (this ws)]
noncomputable def bq : Vs.Env → Sr := (seqS (ifS (boolR (op2 eqD (varE 0) (cE (.str "size")))) (retS (makeO "Size")) nilS)
    (seqS (ifS (boolR (op2 eqD (varE 0) (cE (.str "bits")))) (retS (makeO "Bits")) nilS)
    (seqS (ifS (boolR (op2 eqD (varE 0) (cE (.str "broad")))) (retS (makeO "Broad")) nilS)
    (seqS (ifS (boolR (op2 eqD (varE 0) (cE (.str "all")))) (retS (makeO "All")) nilS)
    (seqS (ifS (andT (boolR (op2 eqD (op2 ixD (varE 1) (cE (.int 0))) (cE (.str "at")))) (boolR (op2 eqD (callB lenD (consA (varE 2) nilA)) (cE (.int 2))))) (retS (makeF "At" 3 m_At_init (consA (op2 ixD (varE 2) (cE (.int 0))) (consA (op2 ixD (varE 2) (cE (.int 1))) nilA)))) nilS)
    (seqS (ifS (andT (boolR (op2 eqD (op2 ixD (varE 1) (cE (.int 0))) (cE (.str "level")))) (boolR (op2 eqD (callB lenD (consA (varE 2) nilA)) (cE (.int 1))))) (retS (makeF "Level" 2 m_Level_init (consA (op2 ixD (varE 2) (cE (.int 0))) nilA))) nilS)
    (seqS (ifS (andT (boolR (op2 eqD (op2 ixD (varE 1) (cE (.int 0))) (cE (.str "piece")))) (boolR (op2 eqD (callB lenD (consA (varE 2) nilA)) (cE (.int 4))))) (retS (makeF "Piece" 5 m_Piece_init (consA (op2 ixD (varE 2) (cE (.int 0))) (consA (op2 ixD (varE 2) (cE (.int 1))) (consA (op2 ixD (varE 2) (cE (.int 2))) (consA (op2 ixD (varE 2) (cE (.int 3))) nilA)))))) nilS)
    (raiseS "NoRow"))))))))
theorem asked_env {w : List Nat} (x0 x1 x2 : Option D) : callF m_asked_number (consA (varE 3) nilA) [x0, x1, x2, some (.str (stL w))] = m_asked_number [.str (stL w)] := cf1 rfl
theorem q_split {w0 : List Nat} {wt : List (List Nat)} (h : ∀ w ∈ w0 :: wt, okW w) (hl : wt.length ≤ 99) : asgS 1 (m1E splitG (varE 0) (cE (.str " "))) [some (rowS (w0 :: wt)), none, none, none] = .nx [some (rowS (w0 :: wt)), some (.lst ((w0 :: wt).map fun w => D.str (stL w))), none, none] := by
  have hr := row_len h (by rw [List.length_cons]; omega)
  refine asg_ok ?_
  rw [litB, m1E_str (a := stL (TL.joinL [32] (w0 :: wt))) rfl]
  show splitG _ (.str (stL [32])) = _
  exact splitG_st (by decide) (by simp) (fun w hw => (h w hw).sp) (by omega)
theorem q_bad {w0 : List Nat} {wt : List (List Nat)} (h : ∀ w ∈ w0 :: wt, okW w) (hl : wt.length ≤ 99) (hb : ∃ w ∈ wt, aq w = none) : m_question [rowS (w0 :: wt)] = .ex "NoRow" := by
  rw [r_question]
  simp only [b_question]
  rw [seqS_eq, q_split h hl, seq_nx, seqS_eq]
  have e : lcXE [3] (itV itemsR (slG (varE 1) (someO (cE (.int 1))) noO)) (tgN 3) (callF m_asked_number (consA (varE 3) nilA)) [some (rowS (w0 :: wt)), some (.lst ((w0 :: wt).map fun w => D.str (stL w))), none, none] = .ex "NoRow" := by
    refine lcXE_ex (e := fun w => D.str (stL w)) (xs := wt) ((ite_ok (tail_sl rfl (by omega))).trans rfl) (by omega) (fun w hw => ⟨_, rfl, ?_⟩) ?_
    · have hw' := h w (List.mem_cons_of_mem _ hw)
      have ea := asked_ok hw'.ch hw'.ln
      show callF m_asked_number (consA (varE 3) nilA) [_, _, _, some (.str (stL w))] = _ ∨ ∃ d, callF m_asked_number (consA (varE 3) nilA) [_, _, _, some (.str (stL w))] = _
      rw [asked_env, ea]
      cases aq w with
      | none => exact .inl rfl
      | some n => exact .inr ⟨_, rfl⟩
    · obtain ⟨w, hw, ew⟩ := hb
      refine ⟨w, hw, fun ρ1 h1 => ?_⟩
      have hw' := h w (List.mem_cons_of_mem _ hw)
      have ea := asked_ok hw'.ch hw'.ln
      rw [ew] at ea
      cases h1
      exact (asked_env _ _ _).trans ea
  unfold asgS
  rw [e]
  rfl
theorem q_run {w0 : List Nat} {wt : List (List Nat)} {vs : List Int} (h : ∀ w ∈ w0 :: wt, okW w) (hl : wt.length ≤ 99) (hv : ∀ w ∈ wt, ∃ n, aq w = some n) (ev : wt.map (fun w => (aq w).getD 0) = vs) : m_question [rowS (w0 :: wt)] = bodyR (bq [some (rowS (w0 :: wt)), some (.lst ((w0 :: wt).map fun w => D.str (stL w))), some (.lst (vs.map D.int)), none]) := by
  rw [r_question]
  simp only [b_question]
  rw [seqS_eq, q_split h hl, seq_nx, seqS_eq, asg_ok (d := .lst (vs.map D.int)) (by
    rw [lcXE_enc (e := fun w => D.str (stL w)) (g := fun w => D.int ((aq w).getD 0)) (xs := wt) ((ite_ok (tail_sl rfl (by omega))).trans rfl) (by omega) (fun w hw => ⟨_, rfl, by
      have hw' := h w (List.mem_cons_of_mem _ hw)
      have ea := asked_ok hw'.ch hw'.ln
      obtain ⟨n, en⟩ := hv w hw
      rw [en] at ea
      rw [en]
      exact (asked_env _ _ _).trans ea⟩), ← ev, List.map_map]
    rfl), seq_nx]
  rfl
theorem okT_kw (k : Nat) : okT (kwL k) := by
  have : ∀ c ∈ kwL k, c < 256 := by
    unfold kwL
    split <;> decide
  exact fun c hc => Nat.lt_of_lt_of_le (this c hc) (by decide)
section
variable {w0 : List Nat} {wt : List (List Nat)} {vs : List Int}
theorem tq_row (h : ∀ w ∈ w0 :: wt, okW w) (k : Nat) {x : Str} (e : x = stL (kwL k)) (x1 x2 x3 : Option D) : boolR (op2 eqD (varE 0) (cE (.str x))) [some (rowS (w0 :: wt)), x1, x2, x3] = .ok (decide (TL.joinL [32] (w0 :: wt) = kwL k)) := by
  subst e
  exact boolR_2 (x := rowS (w0 :: wt)) (y := .str (stL (kwL k))) rfl rfl (eqD_stL (row_ok h) (okT_kw k))
theorem tq_kw (h : ∀ w ∈ w0 :: wt, okW w) (k : Nat) (n : Int) {x : Str} (e : x = stL (kwL k)) (x0 x3 : Option D) (hl : vs.length ≤ 1000) : andT (boolR (op2 eqD (op2 ixD (varE 1) (cE (.int 0))) (cE (.str x)))) (boolR (op2 eqD (callB lenD (consA (varE 2) nilA)) (cE (.int n)))) [x0, some (.lst ((w0 :: wt).map fun w => D.str (stL w))), some (.lst (vs.map D.int)), x3] = .ok (decide (w0 = kwL k) && decide ((vs.length : Int) = n)) := by
  subst e
  refine andT_b (boolR_2 (x := .str (stL w0)) (y := .str (stL (kwL k))) (by rw [op2_v (x := .lst ((w0 :: wt).map fun w => D.str (stL w))) (y := .int 0) rfl rfl]; exact ix0_lst _ _) rfl (eqD_stL (h w0 List.mem_cons_self).ch (okT_kw k))) (boolR_2 (x := .int (vs.length : Int)) (y := .int n) ((cb1_ (by rfl)).trans (by rw [lenD_lst, List.length_map])) rfl (eqD_int _ _))
theorem q_none (h : ∀ w ∈ w0 :: wt, okW w) (hl : wt.length ≤ 99) (hv : ∀ w ∈ wt, ∃ n, aq w = some n) (hr : ∀ k < 4, TL.joinL [32] (w0 :: wt) ≠ kwL k) (hk : ∀ k, 4 ≤ k → k < 7 → w0 = kwL k → wt.length ≠ cnt k) : m_question [rowS (w0 :: wt)] = .ex "NoRow" := by
  rw [q_run h hl hv rfl]
  have hvl : (wt.map fun w => (aq w).getD 0).length = wt.length := List.length_map _
  generalize wt.map (fun w => (aq w).getD 0) = vs at hvl
  have kk : ∀ (k : Nat) (n : Int), 4 ≤ k → k < 7 → n = (cnt k : Nat) → (decide (w0 = kwL k) && decide ((vs.length : Int) = n)) = false := fun k n k4 k7 en => by
    rw [Bool.and_eq_false_iff]
    by_cases e : w0 = kwL k
    · exact .inr (decide_eq_false (by have := hk k k4 k7 e; omega))
    · exact .inl (decide_eq_false e)
  unfold bq
  rw [seqS_eq, ifS_b (tq_row h 0 lit0 _ _ _), if_neg (by rw [decide_eq_false (hr 0 (by omega))]; decide)]
  show bodyR ((Sr.nx _).seq _) = _
  rw [seq_nx, seqS_eq, ifS_b (tq_row h 1 lit1 _ _ _), if_neg (by rw [decide_eq_false (hr 1 (by omega))]; decide)]
  show bodyR ((Sr.nx _).seq _) = _
  rw [seq_nx, seqS_eq, ifS_b (tq_row h 2 lit2 _ _ _), if_neg (by rw [decide_eq_false (hr 2 (by omega))]; decide)]
  show bodyR ((Sr.nx _).seq _) = _
  rw [seq_nx, seqS_eq, ifS_b (tq_row h 3 lit3 _ _ _), if_neg (by rw [decide_eq_false (hr 3 (by omega))]; decide)]
  show bodyR ((Sr.nx _).seq _) = _
  rw [seq_nx, seqS_eq, ifS_b (tq_kw h 4 2 lit4 _ _ (by omega)), kk 4 2 (by omega) (by omega) rfl, if_neg (by decide)]
  show bodyR ((Sr.nx _).seq _) = _
  rw [seq_nx, seqS_eq, ifS_b (tq_kw h 5 1 lit5 _ _ (by omega)), kk 5 1 (by omega) (by omega) rfl, if_neg (by decide)]
  show bodyR ((Sr.nx _).seq _) = _
  rw [seq_nx, seqS_eq, ifS_b (tq_kw h 6 4 lit6 _ _ (by omega)), kk 6 4 (by omega) (by omega) rfl, if_neg (by decide)]
  rfl
theorem kw_ne {j k : Nat} (hj : j < 7) (hk : k < 7) (h : kwL j = kwL k) : j = k := by
  have : ∀ j < 7, ∀ k < 7, kwL j = kwL k → j = k := by decide
  exact this j hj k hk h
theorem q_good {k : Nat} (hk : k < 7) (h : ∀ w ∈ kwL k :: wt, okW w) (hv : ∀ w ∈ wt, ∃ n, aq w = some n) (hc : wt.length = cnt k) : ∃ ks ds, m_question [rowS (kwL k :: wt)] = .ok (.obj (clsK k) ks ds) := by
  have hl : wt.length ≤ 99 := by rw [hc]; unfold cnt; split <;> omega
  rw [q_run h hl hv rfl]
  have hvl : (wt.map fun w => (aq w).getD 0).length = cnt k := by rw [List.length_map, hc]
  generalize wt.map (fun w => (aq w).getD 0) = vs at hvl
  have rw4 : ∀ j < 4, 4 ≤ k → TL.joinL [32] (kwL k :: wt) ≠ kwL j := fun j hj k4 e => by
    have hne : wt ≠ [] := fun z => by
      rw [z] at hc
      have : ∀ k < 7, 4 ≤ k → 0 < cnt k := by decide
      have := this k hk k4
      rw [← hc] at this
      exact absurd this (by decide)
    have hm : 32 ∈ TL.joinL [32] (kwL k :: wt) := by
      cases wt with
      | nil => exact absurd rfl hne
      | cons a t =>
        show 32 ∈ kwL k ++ ([32] ++ TL.joinL [32] (a :: t))
        simp
    rw [e] at hm
    have : ∀ j < 4, 32 ∉ kwL j := by decide
    exact this j hj hm
  unfold bq
  have go0 : ∀ j : Nat, j < 4 → k ≠ j → decide (TL.joinL [32] (kwL k :: wt) = kwL j) = false := fun j hj ne => by
    by_cases k4 : 4 ≤ k
    · exact decide_eq_false (rw4 j hj k4)
    · have e0 : wt = [] := List.eq_nil_of_length_eq_zero (by rw [hc]; have : ∀ k < 4, cnt k = 0 := (by decide); exact this k (by omega))
      subst e0
      exact decide_eq_false fun e => ne (kw_ne hk (by omega) e)
  have row0 : k < 4 → decide (TL.joinL [32] (kwL k :: wt) = kwL k) = true := fun k4 => by
    have e0 : wt = [] := List.eq_nil_of_length_eq_zero (by rw [hc]; have : ∀ k < 4, cnt k = 0 := (by decide); exact this k k4)
    subst e0
    exact decide_eq_true rfl
  have kk : ∀ (j : Nat) (n : Int), 4 ≤ j → j < 7 → k ≠ j → (decide (kwL k = kwL j) && decide ((vs.length : Int) = n)) = false := fun j n j4 j7 ne => by
    rw [decide_eq_false fun e => ne (kw_ne hk j7 e)]
    rfl
  have kt : ∀ n : Int, n = (cnt k : Nat) → (decide (kwL k = kwL k) && decide ((vs.length : Int) = n)) = true := fun n en => by
    rw [decide_eq_true rfl, decide_eq_true (by omega)]
    rfl
  rcases (show k = 0 ∨ k = 1 ∨ k = 2 ∨ k = 3 ∨ k = 4 ∨ k = 5 ∨ k = 6 by omega) with rfl | rfl | rfl | rfl | rfl | rfl | rfl
  · rw [seqS_eq, ifS_b (tq_row h 0 lit0 _ _ _), row0 (by omega), if_pos rfl]
    exact ⟨[], [], rfl⟩
  · rw [seqS_eq, ifS_b (tq_row h 0 lit0 _ _ _), go0 0 (by omega) (by omega), if_neg (by decide)]
    show ∃ ks ds, bodyR ((Sr.nx _).seq _) = _
    rw [seq_nx, seqS_eq, ifS_b (tq_row h 1 lit1 _ _ _), row0 (by omega), if_pos rfl]
    exact ⟨[], [], rfl⟩
  · rw [seqS_eq, ifS_b (tq_row h 0 lit0 _ _ _), go0 0 (by omega) (by omega), if_neg (by decide)]
    show ∃ ks ds, bodyR ((Sr.nx _).seq _) = _
    rw [seq_nx, seqS_eq, ifS_b (tq_row h 1 lit1 _ _ _), go0 1 (by omega) (by omega), if_neg (by decide)]
    show ∃ ks ds, bodyR ((Sr.nx _).seq _) = _
    rw [seq_nx, seqS_eq, ifS_b (tq_row h 2 lit2 _ _ _), row0 (by omega), if_pos rfl]
    exact ⟨[], [], rfl⟩
  · rw [seqS_eq, ifS_b (tq_row h 0 lit0 _ _ _), go0 0 (by omega) (by omega), if_neg (by decide)]
    show ∃ ks ds, bodyR ((Sr.nx _).seq _) = _
    rw [seq_nx, seqS_eq, ifS_b (tq_row h 1 lit1 _ _ _), go0 1 (by omega) (by omega), if_neg (by decide)]
    show ∃ ks ds, bodyR ((Sr.nx _).seq _) = _
    rw [seq_nx, seqS_eq, ifS_b (tq_row h 2 lit2 _ _ _), go0 2 (by omega) (by omega), if_neg (by decide)]
    show ∃ ks ds, bodyR ((Sr.nx _).seq _) = _
    rw [seq_nx, seqS_eq, ifS_b (tq_row h 3 lit3 _ _ _), row0 (by omega), if_pos rfl]
    exact ⟨[], [], rfl⟩
  all_goals
    rw [seqS_eq, ifS_b (tq_row h 0 lit0 _ _ _), go0 0 (by omega) (by omega), if_neg (by decide)]
    show ∃ ks ds, bodyR ((Sr.nx _).seq _) = _
    rw [seq_nx, seqS_eq, ifS_b (tq_row h 1 lit1 _ _ _), go0 1 (by omega) (by omega), if_neg (by decide)]
    show ∃ ks ds, bodyR ((Sr.nx _).seq _) = _
    rw [seq_nx, seqS_eq, ifS_b (tq_row h 2 lit2 _ _ _), go0 2 (by omega) (by omega), if_neg (by decide)]
    show ∃ ks ds, bodyR ((Sr.nx _).seq _) = _
    rw [seq_nx, seqS_eq, ifS_b (tq_row h 3 lit3 _ _ _), go0 3 (by omega) (by omega), if_neg (by decide)]
    show ∃ ks ds, bodyR ((Sr.nx _).seq _) = _
    rw [seq_nx, seqS_eq, ifS_b (tq_kw h 4 2 lit4 _ _ (by rw [hvl]; decide))]
  · rw [kt 2 rfl, if_pos rfl]
    match vs, hvl with
    | [a, b], _ => exact ⟨_, _, rfl⟩
  · rw [kk 4 2 (by omega) (by omega) (by omega), if_neg (by decide)]
    show ∃ ks ds, bodyR ((Sr.nx _).seq _) = _
    rw [seq_nx, seqS_eq, ifS_b (tq_kw h 5 1 lit5 _ _ (by rw [hvl]; decide)), kt 1 rfl, if_pos rfl]
    match vs, hvl with
    | [a], _ => exact ⟨_, _, rfl⟩
  · rw [kk 4 2 (by omega) (by omega) (by omega), if_neg (by decide)]
    show ∃ ks ds, bodyR ((Sr.nx _).seq _) = _
    rw [seq_nx, seqS_eq, ifS_b (tq_kw h 5 1 lit5 _ _ (by rw [hvl]; decide)), kk 5 1 (by omega) (by omega) (by omega), if_neg (by decide)]
    show ∃ ks ds, bodyR ((Sr.nx _).seq _) = _
    rw [seq_nx, seqS_eq, ifS_b (tq_kw h 6 4 lit6 _ _ (by rw [hvl]; decide)), kt 4 rfl, if_pos rfl]
    match vs, hvl with
    | [a, b, c, d], _ => exact ⟨_, _, rfl⟩
end

theorem insS_ok {i : Nat} {fk fe : Vs.Env → R D} {ρ : Vs.Env} {ds : List D} {d : D} {k : Nat} (hi : ρ[i]? = some (some (.lst ds))) (hk : fk ρ = .ok (.int (k : Int))) (he : fe ρ = .ok d) (hl : ds.length < 1000000) (hb : k < 1000000) : insS i fk fe ρ = .nx (ρ.set i (some (.lst (ds.take k ++ [d] ++ ds.drop k)))) := by
  unfold insS
  rw [hi]
  simp only
  rw [hk, bindS_ok]
  simp only
  rw [he, bindS_ok]
  have e63 : (2 : Int) ^ 63 = 9223372036854775808 := by decide
  rw [if_pos ⟨by rw [sizeLine_eq]; omega, by omega, by rw [e63]; omega⟩, Int.toNat_natCast]
theorem okW_by {w : List Nat} (h : (w.all fun c => decide (c < 256) && decide (c ≠ 32)) = true) (hl : w.length ≤ 1000) : okW w := by
  rw [List.all_eq_true] at h
  refine ⟨fun m => ?_, fun c m => ?_, hl⟩
  · have := h 32 m
    simp at this
  · have := h c m
    rw [Bool.and_eq_true] at this
    exact Nat.lt_of_lt_of_le (of_decide_eq_true this.1) (by decide)
theorem okW_kw (k : Nat) : okW (kwL k) := by
  unfold kwL
  split <;> exact okW_by (by decide) (by decide)
theorem okW_nil : okW [] := okW_by (by decide) (by decide)
theorem okW_wd {n : Int} (h1 : 0 ≤ n) (h2 : n ≤ 9999) : okW (wd n) := ⟨wd_free (by omega) h2 (by omega), (wd_ok (by omega) h2).2.1, by have := (wd_ok (n := n) (by omega) h2).2.2; omega⟩
theorem aq_wd {n : Int} (h1 : 0 ≤ n) (h2 : n ≤ 9999) : aq (wd n) = some n := by
  unfold aq
  rw [(wd_ok (by omega) h2).1]
  simp only
  rw [if_neg (by omega)]
theorem number_ok (c : Int) : ∃ n : Int, 0 ≤ n ∧ n ≤ 9999 ∧ m_law_number [.int c] = .ok (.str (stL (wd n))) := by
  rw [r_law_number]
  simp only [b_law_number]
  have t : boolR (op2 eqD (op2 modD (varE 0) (cE (.int 4))) (cE (.int 0))) [some (.int c)] = .ok (decide (c % 4 = 0)) := boolR_2 (x := .int (c % 4)) (y := .int 0) (by rw [op2_v (x := .int c) (y := .int 4) rfl rfl, modD_pos (by omega)]) rfl (eqD_int _ _)
  have ev : ∀ (m : Int), 0 < m → m ≤ 10000 → callB strD (consA (op2 modD (op2 fdivD (varE 0) (cE (.int 4))) (cE (.int m))) nilA) [some (.int c)] = .ok (.str (stL (wd (c / 4 % m)))) := fun m h1 h2 => by
    have a1 := Int.emod_nonneg (c / 4) (show m ≠ 0 by omega)
    have a2 := Int.emod_lt_of_pos (c / 4) h1
    rw [cb1_ (x0 := .int (c / 4 % m)) (by rw [op2_v (x := .int (c / 4)) (y := .int m) (by rw [op2_v (x := .int c) (y := .int 4) rfl rfl, fdivD_pos (by omega)]; omega) rfl, modD_pos (by omega)])]
    exact strD_wd (by omega) (by omega)
  rw [seqS_eq, ifS_b t]
  by_cases z : c % 4 = 0
  · rw [if_pos (decide_eq_true z), ret_ok (ev 10000 (by omega) (by omega))]
    exact ⟨c / 4 % 10000, by omega, by omega, rfl⟩
  · rw [if_neg (by rw [decide_eq_false z]; decide)]
    show ∃ n : Int, _ ∧ _ ∧ bodyR ((Sr.nx _).seq _) = _
    rw [seq_nx, ret_ok (ev 70 (by omega) (by omega))]
    exact ⟨c / 4 % 70, by omega, by omega, rfl⟩
/-! kinds -/
theorem xr_k {t k : Nat} (ht : t < 7) (hk : k < 7) : isXR tbO (clsK k) (clsK t) = .ok (.bl (decide (t = k))) := by
  rcases (show k = 0 ∨ k = 1 ∨ k = 2 ∨ k = 3 ∨ k = 4 ∨ k = 5 ∨ k = 6 by omega) with rfl | rfl | rfl | rfl | rfl | rfl | rfl <;>
  rcases (show t = 0 ∨ t = 1 ∨ t = 2 ∨ t = 3 ∨ t = 4 ∨ t = 5 ∨ t = 6 by omega) with rfl | rfl | rfl | rfl | rfl | rfl | rfl <;> rfl
theorem xr_q {k : Nat} (hk : k < 7) : isXR tbO (clsK k) "Question" = .ok (.bl true) := by
  rcases (show k = 0 ∨ k = 1 ∨ k = 2 ∨ k = 3 ∨ k = 4 ∨ k = 5 ∨ k = 6 by omega) with rfl | rfl | rfl | rfl | rfl | rfl | rfl <;> rfl
theorem sk {t : Vs.Env → R Bool} {a q : Vs.Env → Sr} {ρ : Vs.Env} (h : t ρ = .ok false) : bodyR (seqS (ifS t a nilS) q ρ) = bodyR (q ρ) := by
  rw [seqS_eq, ifS_b h, if_neg (by decide)]
  rfl
theorem tk2 {t : Vs.Env → R Bool} {a q : Vs.Env → Sr} {ρ ρ' : Vs.Env} (h : t ρ = .ok true) (ha : a ρ = .nx ρ') : bodyR (seqS (ifS t a nilS) q ρ) = bodyR (q ρ') := by
  rw [seqS_eq, ifS_b h, if_pos rfl, ha]
  rfl
theorem tr2 {t : Vs.Env → R Bool} {f : Vs.Env → R D} {q : Vs.Env → Sr} {ρ : Vs.Env} {d : D} (h : t ρ = .ok true) (ha : f ρ = .ok d) : bodyR (seqS (ifS t (retS f) nilS) q ρ) = .ok d := by
  rw [seqS_eq, ifS_b h, if_pos rfl, ret_ok ha]
  rfl
theorem is_kind_ok {t k : Nat} (ht : t < 7) (hk : k < 7) (ks : List Str) (ds : List D) : m_law_is_kind [.obj (clsK k) ks ds, .int (t : Int)] = .ok (.bl (decide (t = k))) := by
  rw [r_law_is_kind]
  simp only [b_law_is_kind]
  have tt : ∀ j : Int, boolR (op2 eqD (varE 1) (cE (.int j))) [some (.obj (clsK k) ks ds), some (.int (t : Int))] = .ok (decide ((t : Int) = j)) := fun j => boolR_2 (x := .int (t : Int)) (y := .int j) rfl rfl (eqD_int _ _)
  have tn : ∀ j : Int, (t : Int) ≠ j → boolR (op2 eqD (varE 1) (cE (.int j))) [some (.obj (clsK k) ks ds), some (.int (t : Int))] = .ok false := fun j h => by rw [tt j, decide_eq_false h]
  have ty : ∀ j : Int, (t : Int) = j → boolR (op2 eqD (varE 1) (cE (.int j))) [some (.obj (clsK k) ks ds), some (.int (t : Int))] = .ok true := fun j h => by rw [tt j, decide_eq_true h]
  have io : ∀ x : Str, isOE tbO x (varE 0) [some (.obj (clsK k) ks ds), some (.int (t : Int))] = isXR tbO (clsK k) x := fun x => rfl
  have xr := xr_k ht hk
  rcases (show t = 0 ∨ t = 1 ∨ t = 2 ∨ t = 3 ∨ t = 4 ∨ t = 5 ∨ t = 6 by omega) with rfl | rfl | rfl | rfl | rfl | rfl | rfl
  · rw [tr2 (f := isOE tbO "Size" (varE 0)) (ty 0 (by omega)) ((io _).trans xr)]
  · rw [sk (tn 0 (by omega)), tr2 (f := isOE tbO "Bits" (varE 0)) (ty 1 (by omega)) ((io _).trans xr)]
  · rw [sk (tn 0 (by omega)), sk (tn 1 (by omega)), tr2 (f := isOE tbO "Broad" (varE 0)) (ty 2 (by omega)) ((io _).trans xr)]
  · rw [sk (tn 0 (by omega)), sk (tn 1 (by omega)), sk (tn 2 (by omega)), tr2 (f := isOE tbO "All" (varE 0)) (ty 3 (by omega)) ((io _).trans xr)]
  · rw [sk (tn 0 (by omega)), sk (tn 1 (by omega)), sk (tn 2 (by omega)), sk (tn 3 (by omega)), tr2 (f := isOE tbO "At" (varE 0)) (ty 4 (by omega)) ((io _).trans xr)]
  · rw [sk (tn 0 (by omega)), sk (tn 1 (by omega)), sk (tn 2 (by omega)), sk (tn 3 (by omega)), sk (tn 4 (by omega)), tr2 (f := isOE tbO "Level" (varE 0)) (ty 5 (by omega)) ((io _).trans xr)]
  · rw [sk (tn 0 (by omega)), sk (tn 1 (by omega)), sk (tn 2 (by omega)), sk (tn 3 (by omega)), sk (tn 4 (by omega)), sk (tn 5 (by omega)), ret_ok (f := isOE tbO "Piece" (varE 0)) ((io _).trans xr)]
    rfl
theorem right_ok {row : D} {k : Nat} (hk : k < 7) {ks : List Str} {ds : List D} (hq : m_question [row] = .ok (.obj (clsK k) ks ds)) : m_law_right [row, .int (k : Int)] = .ok (.bl true) := by
  rw [r_law_right]
  simp only [b_law_right]
  rw [seqS_eq, asg_ok (d := .obj (clsK k) ks ds) ((cf1 (by rfl)).trans hq), seq_nx]
  simp only [List.set_cons_zero, List.set_cons_succ]
  rw [sk (notT_b (a := true) (boolR_b (show isOE tbO "Question" (varE 2) [some row, some (.int (k : Int)), some (.obj (clsK k) ks ds), none] = _ from xr_q hk)))]
  rw [seqS_eq, forS]
  unfold itR
  rw [al1 (x0 := .int 7) rfl, R.bind_ok, rng1_ok (bnd_of (by omega) (by omega)), bindS_ok]
  refine body_forI (fun _ ρ => ∃ x3, ρ = [some row, some (.int (k : Int)), some (.obj (clsK k) ks ds), x3]) ⟨none, rfl⟩ (fun t d hd ρ hi => ?_) (fun ρ ⟨x3, hρ⟩ => by subst hρ; rfl)
  obtain ⟨x3, rfl⟩ := hi
  obtain ⟨ht, rfl⟩ := rngL_at hd
  have ht7 : t < 7 := by have : ((7 : Int)).toNat = 7 := rfl; omega
  refine ⟨_, rfl, ?_⟩
  rw [Int.zero_add]
  show Go _ (ifS _ _ _ [some row, some (.int (k : Int)), some (.obj (clsK k) ks ds), some (.int (t : Int))])
  rw [ifS_b (b := false) (boolR_2 (x := .bl (decide (t = k))) (y := .bl (decide ((t : Int) = (k : Int)))) ((cf2 (by rfl) (by rfl)).trans (is_kind_ok ht7 hk ks ds)) (by rw [op2_v (x := .int (t : Int)) (y := .int (k : Int)) rfl rfl]; exact eqD_int _ _) (by
    rw [show decide ((t : Int) = (k : Int)) = decide (t = k) from decide_eq_decide.mpr (by omega)]
    exact neD_self (n := 0) (.bl _) (by decide))), if_neg (by decide)]
  exact ⟨_, rfl⟩
def due49 : List Bool := [true, true, false, false, false, false, false, false, false, false]
theorem refused_ok {row : D} (hq : m_question [row] = .ex "NoRow") : m_law_refused [row] = .ok (.bl true) := by
  have kx : ∀ (ad : Addr) {r : R D} {v : D} {x y : Option D}, r = .ok v → isE 2 ad r [x, y, some (.exc "" ad)] = .ok v := fun ad r v x y h => (isE_tok rfl).trans h
  rw [r_law_refused]
  simp only [b_law_refused]
  rw [seqS_eq, asg_ok (d := .lst []) (by rfl), seq_nx]
  simp only [List.set_cons_zero, List.set_cons_succ]
  rw [seqS_eq]
  have e : exprS (callF m_question (consA (varE 0) nilA)) [some row, some (.lst []), none] = .ex "NoRow" [some row, some (.lst []), none] := by
    unfold exprS
    rw [(cf1 (by rfl)).trans hq]
    rfl
  unfold tryAsS
  rw [e]
  simp only
  rw [show tb_WaveError.lookup (Str.ofString "NoRow") = some true by decide +kernel]
  simp only
  rw [tokS_eq (r := .nx [some row, some (.lst (due49.map D.bl)), none]) (fun ad => by
    simp only [List.set_cons_zero, List.set_cons_succ]
    rw [seqS_eq, asg_ok (d := .lst ([true, true, false, false].map D.bl)) (by exact le4 (x0 := .bl true) (x1 := .bl true) (x2 := .bl false) (x3 := .bl false) (kx ad rfl) (kx ad rfl) (kx ad rfl) (kx ad rfl)), seq_nx]
    simp only [List.set_cons_zero, List.set_cons_succ]
    rw [seqS_eq, asg_ok (d := .lst ([true, true, false, false, false, false, false].map D.bl)) (by
      rw [op2_v (x := .lst ([true, true, false, false].map D.bl)) (y := .lst ([false, false, false].map D.bl)) rfl (by exact le3 (x0 := .bl false) (x1 := .bl false) (x2 := .bl false) (kx ad rfl) (kx ad rfl) (kx ad rfl)), add_bls _ _ (by decide)]
      rfl), seq_nx]
    simp only [List.set_cons_zero, List.set_cons_succ]
    rw [asg_ok (d := .lst (due49.map D.bl)) (by
      rw [op2_v (x := .lst ([true, true, false, false, false, false, false].map D.bl)) (y := .lst ([false, false, false].map D.bl)) rfl (by exact le3 (x0 := .bl false) (x1 := .bl false) (x2 := .bl false) (kx ad rfl) (kx ad rfl) (kx ad rfl)), add_bls _ _ (by decide)]
      rfl)]
    rfl)]
  rw [seq_nx, ret_ok (d := .bl true) (by
    rw [op2_v (x := .lst (due49.map D.bl)) (y := .lst (due49.map D.bl)) rfl (by
      rw [op2_v (x := .lst ([true, true].map D.bl)) (y := .lst ((List.replicate 8 false).map D.bl)) (le2 (by rfl) (by rfl)) (by rw [op2_v (x := .lst [.bl false]) (y := .int (8 : Nat)) (le1 (by rfl)) rfl, rep_bl false 8 (by decide)]), add_bls _ _ (by decide)]
      rfl)]
    exact eqD_self (n := 1) (.lst (fl_bls _)) (by decide))]
  rfl
/-! odd ones -/
def oddL : List (List Nat) := [[45, 49], [45, 48], [48, 49], [43, 49], [49, 46, 48], [48, 48], [49, 50, 51, 52, 53], [97], [49, 45], [45], [48, 48, 55], [49, 44, 49], [45, 49, 50], [45, 45, 49], [120, 57]]
def oddW : List (List (List Nat)) := [[[]], [[], []], [[97, 116]], [[108, 101, 118, 101, 108]], [[112, 105, 101, 99, 101]], [[112, 105, 101, 99, 101], [48], [48], [49]], [[97, 116], [48]], [[97, 116], [48], [48], [48]], [[108, 101, 118, 101, 108], [48], [48]], [[115, 105, 122, 101], [49]], [[97, 108, 108], [48]], [[83, 105, 122, 101]], [[65, 76, 76]], [[98, 105, 116]], [[98, 105, 116, 115, 115]], [[98, 114, 111, 97, 100], [50]], [[48]], [[48], [48]], [[97, 116, 48], [48]], [[97, 116], [48, 44, 48]], [[119, 105, 100, 101]], [[112, 105, 101, 99, 101], [48], [48], [49], [49], [49]]]
theorem odd_lits : [Str.ofString "-1", Str.ofString "-0", Str.ofString "01", Str.ofString "+1", Str.ofString "1.0", Str.ofString "00", Str.ofString "12345", Str.ofString "a", Str.ofString "1-", Str.ofString "-", Str.ofString "007", Str.ofString "1,1", Str.ofString "-12", Str.ofString "--1", Str.ofString "x9"] = oddL.map stL := by decide +kernel
theorem row_lits1 : [Str.ofString "", Str.ofString " ", Str.ofString "at", Str.ofString "level", Str.ofString "piece", Str.ofString "piece 0 0 1", Str.ofString "at 0", Str.ofString "at 0 0 0", Str.ofString "level 0 0", Str.ofString "size 1", Str.ofString "all 0"] = (oddW.take 11).map fun ws => stL (TL.joinL [32] ws) := by decide +kernel
theorem row_lits2 : [Str.ofString "Size", Str.ofString "ALL", Str.ofString "bit", Str.ofString "bitss", Str.ofString "broad 2", Str.ofString "0", Str.ofString "0 0", Str.ofString "at0 0", Str.ofString "at 0,0", Str.ofString "wide", Str.ofString "piece 0 0 1 1 1"] = (oddW.drop 11).map fun ws => stL (TL.joinL [32] ws) := by decide +kernel
theorem strs_of {l : List Str} {α : Type} {xs : List α} {g : α → Str} (h : l = xs.map g) : D.lst (l.map D.str) = .lst (xs.map fun x => D.str (g x)) := by
  rw [h, List.map_map]
  rfl
theorem ix_mod {α : Type} {xs : List α} {f : α → D} (h0 : 0 < xs.length) (c : Int) : ∃ x ∈ xs, ixD (.lst (xs.map f)) (.int (c % (xs.length : Int))) = .ok (f x) := by
  have a1 := Int.emod_nonneg c (show (xs.length : Int) ≠ 0 by omega)
  have a2 := Int.emod_lt_of_pos c (show (0 : Int) < xs.length by omega)
  have hk : (c % (xs.length : Int)).toNat < xs.length := by omega
  refine ⟨xs[(c % (xs.length : Int)).toNat], List.getElem_mem hk, ixD_lst a1 ?_⟩
  rw [List.getElem?_map, List.getElem?_eq_getElem hk]
  rfl
theorem odd_number_ok (c : Int) : ∃ w, okW w ∧ aq w = none ∧ m_law_odd_number [.int c] = .ok (.str (stL w)) := by
  rw [r_law_odd_number]
  simp only [b_law_odd_number]
  have e0 : D.lst ([Str.ofString "-1", Str.ofString "-0", Str.ofString "01", Str.ofString "+1", Str.ofString "1.0", Str.ofString "00", Str.ofString "12345", Str.ofString "a", Str.ofString "1-", Str.ofString "-", Str.ofString "007", Str.ofString "1,1", Str.ofString "-12", Str.ofString "--1", Str.ofString "x9"].map D.str) = .lst (oddL.map fun w => D.str (stL w)) := strs_of odd_lits
  rw [seqS_eq, asg_ok (d := .lst (oddL.map fun w => D.str (stL w))) (by rw [← e0]; rfl), seq_nx]
  simp only [List.set_cons_zero, List.set_cons_succ]
  obtain ⟨w, hw, ew⟩ := ix_mod (xs := oddL) (f := fun w => D.str (stL w)) (by decide) c
  have all : ∀ w ∈ oddL, (w.all fun c => decide (c < 256) && decide (c ≠ 32)) = true ∧ w.length ≤ 1000 ∧ aq w = none := by decide
  refine ⟨w, okW_by (all w hw).1 (all w hw).2.1, (all w hw).2.2, ?_⟩
  rw [ret_ok (d := .str (stL w)) (imm_ok (by
    rw [op2_v (x := .lst (oddL.map fun w => D.str (stL w))) (y := .int (c % (oddL.length : Int))) rfl (by
      rw [op2_v (x := .int c) (y := .int (oddL.length : Int)) rfl ((cb1_ (by rfl)).trans (by rw [lenD_lst, List.length_map])), modD_pos (by decide)])]
    exact ew) (immD_str _))]
  rfl
def condW (ws : List (List Nat)) : Bool := match ws with
  | [] => false
  | w0 :: wt => wt.any (fun w => decide (aq w = none)) || ((List.range 4).all (fun k => decide (TL.joinL [32] (w0 :: wt) ≠ kwL k)) && [4, 5, 6].all (fun k => decide (w0 = kwL k → wt.length ≠ cnt k)))
theorem q_cond {ws : List (List Nat)} (h : ∀ w ∈ ws, okW w) (hl : ws.length ≤ 99) (hc : condW ws = true) : m_question [rowS ws] = .ex "NoRow" := by
  cases ws with
  | nil => cases hc
  | cons w0 wt =>
    rw [List.length_cons] at hl
    unfold condW at hc
    simp only [Bool.or_eq_true, Bool.and_eq_true] at hc
    by_cases hb : ∃ w ∈ wt, aq w = none
    · exact q_bad h (by omega) hb
    · rcases hc with hc | ⟨h1, h2⟩
      · rw [List.any_eq_true] at hc
        obtain ⟨w, hw, e⟩ := hc
        exact absurd ⟨w, hw, of_decide_eq_true e⟩ hb
      · rw [List.all_eq_true] at h1 h2
        refine q_none h (by omega) (fun w hw => ?_) (fun k hk => of_decide_eq_true (h1 k (List.mem_range.mpr hk))) fun k k4 k7 e => of_decide_eq_true (h2 k (by
          rcases (show k = 4 ∨ k = 5 ∨ k = 6 by omega) with rfl | rfl | rfl <;> decide)) e
        cases ea : aq w with
        | none => exact absurd ⟨w, hw, ea⟩ hb
        | some n => exact ⟨n, rfl⟩
theorem add_strs {α β : Type} {xs : List α} {ys : List β} {f : α → Str} {g : β → Str} (h : xs.length + ys.length ≤ 1000) : addD (.lst (xs.map fun x => D.str (f x))) (.lst (ys.map fun y => D.str (g y))) = .ok (.lst ((xs.map fun x => D.str (f x)) ++ ys.map fun y => D.str (g y))) := by
  have im : ∀ {γ : Type} (zs : List γ) (k : γ → Str), immDs (zs.map fun z => D.str (k z)) = true := by
    intro γ zs k
    induction zs with
    | nil => rw [List.map_nil, immDs]
    | cons z zs ih => rw [List.map_cons, immDs, ih, immD_str]; rfl
  unfold addD
  simp only
  rw [if_pos ⟨by rw [List.length_map, List.length_map, sizeLine_eq]; omega, im xs f, im ys g⟩]
theorem odd_row_ok (c : Int) : ∃ ws, m_law_odd_row [.int c] = .ok (rowS ws) ∧ m_question [rowS ws] = .ex "NoRow" := by
  rw [r_law_odd_row]
  simp only [b_law_odd_row]
  have e1 : D.lst ([Str.ofString "", Str.ofString " ", Str.ofString "at", Str.ofString "level", Str.ofString "piece", Str.ofString "piece 0 0 1", Str.ofString "at 0", Str.ofString "at 0 0 0", Str.ofString "level 0 0", Str.ofString "size 1", Str.ofString "all 0"].map D.str) = .lst ((oddW.take 11).map fun ws => rowS ws) := strs_of row_lits1
  have e2 : D.lst ([Str.ofString "Size", Str.ofString "ALL", Str.ofString "bit", Str.ofString "bitss", Str.ofString "broad 2", Str.ofString "0", Str.ofString "0 0", Str.ofString "at0 0", Str.ofString "at 0,0", Str.ofString "wide", Str.ofString "piece 0 0 1 1 1"].map D.str) = .lst ((oddW.drop 11).map fun ws => rowS ws) := strs_of row_lits2
  rw [seqS_eq, asg_ok (d := .lst ((oddW.take 11).map fun ws => rowS ws)) (by rw [← e1]; rfl), seq_nx]
  simp only [List.set_cons_zero, List.set_cons_succ]
  rw [seqS_eq, asg_ok (d := .lst (oddW.map fun ws => rowS ws)) (by
    rw [op2_v (x := .lst ((oddW.take 11).map fun ws => rowS ws)) (y := .lst ((oddW.drop 11).map fun ws => rowS ws)) rfl (by rw [← e2]; rfl)]
    refine (add_strs (f := fun ws => stL (TL.joinL [32] ws)) (g := fun ws => stL (TL.joinL [32] ws)) (by decide)).trans ?_
    rw [← List.map_append, List.take_append_drop]
    rfl), seq_nx]
  simp only [List.set_cons_zero, List.set_cons_succ]
  obtain ⟨ws, hw, ew⟩ := ix_mod (xs := oddW) (f := fun ws => rowS ws) (by decide) c
  have all : ∀ ws ∈ oddW, (∀ w ∈ ws, (w.all fun c => decide (c < 256) && decide (c ≠ 32)) = true ∧ w.length ≤ 1000) ∧ ws.length ≤ 99 ∧ condW ws = true := by decide
  refine ⟨ws, ?_, q_cond (fun w m => okW_by ((all ws hw).1 w m).1 ((all ws hw).1 w m).2) (all ws hw).2.1 (all ws hw).2.2⟩
  rw [ret_ok (d := rowS ws) (imm_ok (by
    rw [op2_v (x := .lst (oddW.map fun ws => rowS ws)) (y := .int (c % (oddW.length : Int))) rfl (by
      rw [op2_v (x := .int c) (y := .int (oddW.length : Int)) rfl ((cb1_ (by rfl)).trans (by rw [lenD_lst, List.length_map])), modD_pos (by decide)])]
    exact ew) (immD_str _))]
  rfl

theorem erase_map {α β : Type} (f : α → β) : ∀ (l : List α) (j : Nat), (l.map f).eraseIdx j = (l.eraseIdx j).map f
  | [], _ => rfl
  | a :: l, 0 => rfl
  | a :: l, j + 1 => by
    rw [List.map_cons, List.eraseIdx_cons_succ, erase_map f l j]
    rfl
def FS (w : List Nat) : D := .str (stL w)
theorem imF (ws : List (List Nat)) : immDs (ws.map FS) = true := by
  induction ws with
  | nil => rw [List.map_nil, immDs]
  | cons z zs ih =>
    rw [List.map_cons, immDs, ih]
    show (immD (.str _) && true) = true
    rw [immD_str]
    rfl
theorem row_ne {w0 : List Nat} {wt : List (List Nat)} (hne : wt ≠ []) (j : Nat) (hj : j < 7) : TL.joinL [32] (w0 :: wt) ≠ kwL j := fun e => by
  have hm : 32 ∈ TL.joinL [32] (w0 :: wt) := by
    cases wt with
    | nil => exact absurd rfl hne
    | cons a t =>
      show 32 ∈ w0 ++ ([32] ++ TL.joinL [32] (a :: t))
      simp
  rw [e] at hm
  have : ∀ j < 7, 32 ∉ kwL j := by decide
  exact this j hj hm
theorem fin49 {ws : List (List Nat)} (h : ∀ w ∈ ws, okW w) (hl : ws.length ≤ 99) (x1 x2 : Option D) : bodyR (retS (m1E joinG (cE (.str " ")) (varE 0)) [some (.lst (ws.map FS)), x1, x2]) = .ok (rowS ws) := by
  rw [ret_ok (d := rowS ws) (by
    rw [litB, m1E_str (a := stL [32]) rfl]
    refine joinG_st ?_
    have h2 := sum_len_le (n := 1000) (ws := ws) fun w hw => (h w hw).ln
    have h3 : ws.length * 1000 ≤ 99 * 1000 := Nat.mul_le_mul_right _ hl
    simp only [List.length_cons, List.length_nil]
    omega)]
  rfl
def varL (k : Nat) : List (List Nat) := [120 :: kwL k, kwL k ++ [115], (kwL k).map (· - 32), (kwL k).drop 1]
theorem up_kw {k : Nat} (hk : k < 7) : upperG (stL (kwL k)) = .ok (.str (stL ((kwL k).map (· - 32)))) := by
  have h : ∀ k < 7, Txt.upper (stL (kwL k)) = stL ((kwL k).map (· - 32)) ∧ (stL (kwL k)).length ≤ 5592405 := by decide +kernel
  unfold upperG
  rw [if_pos (h k hk).2, (h k hk).1]
theorem lit_x : (Str.ofString "x") = stL [120] := by decide +kernel
theorem lit_s : (Str.ofString "s") = stL [115] := by decide +kernel
theorem lit_e : (Str.ofString "") = stL [] := by decide +kernel
theorem kw_len (k : Nat) : (kwL k).length ≤ 5 := by unfold kwL; split <;> decide
theorem spoiled_ok {k : Nat} (hk : k < 7) {xs : List Int} (hx : xs.length = cnt k) (bx : ∀ x ∈ xs, 0 ≤ x ∧ x ≤ 9999) {y : Int} (y0 : 0 ≤ y) (y6 : y < 6) (c : Int) : ∃ row : D, m_law_spoiled [.lst ((kwL k :: xs.map wd).map FS), .int y, .int c] = .ok row ∧ m_question [row] = .ex "NoRow" := by
  have hc4 : cnt k ≤ 4 := by unfold cnt; split <;> omega
  have okt : ∀ w ∈ xs.map wd, okW w := fun w hw => by
    obtain ⟨x, hx', rfl⟩ := List.mem_map.mp hw
    exact okW_wd (bx x hx').1 (bx x hx').2
  have okw : ∀ w ∈ kwL k :: xs.map wd, okW w := fun w hw => (List.mem_cons.mp hw).elim (fun e => e ▸ okW_kw k) (okt w)
  have aqt : ∀ w ∈ xs.map wd, ∃ n, aq w = some n := fun w hw => by
    obtain ⟨x, hx', rfl⟩ := List.mem_map.mp hw
    exact ⟨x, aq_wd (bx x hx').1 (bx x hx').2⟩
  have tl : (xs.map wd).length = cnt k := by rw [List.length_map, hx]
  generalize xs.map wd = T at okt okw aqt tl
  have ty : ∀ (j : Int) (ws : List (List Nat)), boolR (op2 eqD (varE 1) (cE (.int j))) [some (.lst (ws.map FS)), some (.int y), some (.int c)] = .ok (decide (y = j)) := fun j ws => boolR_2 (x := .int y) (y := .int j) rfl rfl (eqD_int _ _)
  have ln : ∀ ws : List (List Nat), callB lenD (consA (varE 0) nilA) [some (.lst (ws.map FS)), some (.int y), some (.int c)] = .ok (.int (ws.length : Int)) := fun ws => (cb1_ (by rfl)).trans (by rw [lenD_lst, List.length_map])
  have tg : ∀ ws : List (List Nat), boolR (op2 gtD (callB lenD (consA (varE 0) nilA)) (cE (.int 1))) [some (.lst (ws.map FS)), some (.int y), some (.int c)] = .ok (decide ((1 : Int) < (ws.length : Int))) := fun ws => boolR_2 (ln ws) (y := .int 1) rfl (gtD_int _ _)
  have te : ∀ ws : List (List Nat), boolR (op2 eqD (callB lenD (consA (varE 0) nilA)) (cE (.int 1))) [some (.lst (ws.map FS)), some (.int y), some (.int c)] = .ok (decide ((ws.length : Int) = 1)) := fun ws => boolR_2 (ln ws) (y := .int 1) rfl (eqD_int _ _)
  have T1 : ∀ (ws : List (List Nat)) (b : Bool), (b = true ↔ y = 0 ∧ 1 < ws.length) → andT (boolR (op2 eqD (varE 1) (cE (.int 0)))) (boolR (op2 gtD (callB lenD (consA (varE 0) nilA)) (cE (.int 1)))) [some (.lst (ws.map FS)), some (.int y), some (.int c)] = .ok b := fun ws b hb => (andT_b (ty 0 ws) (tg ws)).trans (congrArg Vs.R.ok (by
    rw [Bool.eq_iff_iff, hb, Bool.and_eq_true, decide_eq_true_eq, decide_eq_true_eq]
    omega))
  have T2 : ∀ (ws : List (List Nat)) (b : Bool), (b = true ↔ y = 1 ∨ y = 0 ∧ ws.length = 1) → orT (boolR (op2 eqD (varE 1) (cE (.int 1)))) (andT (boolR (op2 eqD (varE 1) (cE (.int 0)))) (boolR (op2 eqD (callB lenD (consA (varE 0) nilA)) (cE (.int 1))))) [some (.lst (ws.map FS)), some (.int y), some (.int c)] = .ok b := fun ws b hb => (orT_b (ty 1 ws) (andT_b (ty 0 ws) (te ws))).trans (congrArg Vs.R.ok (by
    rw [Bool.eq_iff_iff, hb, Bool.or_eq_true, Bool.and_eq_true, decide_eq_true_eq, decide_eq_true_eq, decide_eq_true_eq]
    omega))
  have T3 : ∀ (j : Int) (ws : List (List Nat)) (b : Bool), (b = true ↔ y = j) → boolR (op2 eqD (varE 1) (cE (.int j))) [some (.lst (ws.map FS)), some (.int y), some (.int c)] = .ok b := fun j ws b hb => (ty j ws).trans (congrArg Vs.R.ok (by rw [Bool.eq_iff_iff, hb, decide_eq_true_eq]))
  have T5 : ∀ (ws : List (List Nat)) (b : Bool), (b = true ↔ y = 4 ∧ 1 < ws.length) → andT (boolR (op2 eqD (varE 1) (cE (.int 4)))) (boolR (op2 gtD (callB lenD (consA (varE 0) nilA)) (cE (.int 1)))) [some (.lst (ws.map FS)), some (.int y), some (.int c)] = .ok b := fun ws b hb => (andT_b (ty 4 ws) (tg ws)).trans (congrArg Vs.R.ok (by
    rw [Bool.eq_iff_iff, hb, Bool.and_eq_true, decide_eq_true_eq, decide_eq_true_eq]
    omega))
  have T6 : ∀ (ws : List (List Nat)) (b : Bool), (b = true ↔ y = 5 ∨ y = 4 ∧ ws.length = 1) → orT (boolR (op2 eqD (varE 1) (cE (.int 5)))) (andT (boolR (op2 eqD (varE 1) (cE (.int 4)))) (boolR (op2 eqD (callB lenD (consA (varE 0) nilA)) (cE (.int 1))))) [some (.lst (ws.map FS)), some (.int y), some (.int c)] = .ok b := fun ws b hb => (orT_b (ty 5 ws) (andT_b (ty 4 ws) (te ws))).trans (congrArg Vs.R.ok (by
    rw [Bool.eq_iff_iff, hb, Bool.or_eq_true, Bool.and_eq_true, decide_eq_true_eq, decide_eq_true_eq, decide_eq_true_eq]
    omega))
  have ixm : ∀ ws : List (List Nat), 1 < ws.length → op2 addD (cE (.int 1)) (op2 modD (varE 2) (op2 subD (callB lenD (consA (varE 0) nilA)) (cE (.int 1)))) [some (.lst (ws.map FS)), some (.int y), some (.int c)] = .ok (.int (1 + c % ((ws.length : Int) - 1))) := fun ws h1 => by
    rw [op2_v (x := .int 1) (y := .int (c % ((ws.length : Int) - 1))) rfl (by
      rw [op2_v (x := .int c) (y := .int ((ws.length : Int) - 1)) rfl (by rw [op2_v (ln ws) (y := .int 1) rfl, subD_int]), modD_pos (by omega)]), addD_int]
  have oddrow : ∀ ws : List (List Nat), callF m_law_odd_row (consA (varE 2) nilA) [some (.lst (ws.map FS)), some (.int y), some (.int c)] = m_law_odd_row [.int c] := fun ws => cf1 (by rfl)
  rw [r_law_spoiled]
  simp only [b_law_spoiled]
  rw [seqS_eq, asg_ok (d := .lst ((kwL k :: T).map FS)) ((cb1_ (by rfl)).trans (by unfold listD; simp only; rw [if_pos (imF _)])), seq_nx]
  simp only [List.set_cons_zero, List.set_cons_succ]
  have WL : (kwL k :: T).length = cnt k + 1 := by rw [List.length_cons, tl]
  rcases (show y = 0 ∧ 0 < cnt k ∨ (y = 1 ∨ y = 0 ∧ cnt k = 0) ∨ y = 2 ∨ y = 3 ∨ y = 4 ∧ 0 < cnt k ∨ (y = 5 ∨ y = 4 ∧ cnt k = 0) by omega) with hy | hy | hy | hy | hy | hy
  · -- a number for an odd one
    obtain ⟨w, hw, ew, eo⟩ := odd_number_ok (c / 4)
    have a1 := Int.emod_nonneg c (show ((kwL k :: T).length : Int) - 1 ≠ 0 by omega)
    have a2 := Int.emod_lt_of_pos c (show (0 : Int) < ((kwL k :: T).length : Int) - 1 by omega)
    obtain ⟨j, hj⟩ : ∃ j : Nat, c % (((kwL k :: T).length : Int) - 1) = (j : Int) := ⟨_, (Int.toNat_of_nonneg a1).symm⟩
    have jl : j < T.length := by omega
    have es := setS_map (f := FS) (i := 0) (xs := kwL k :: T) (k := 1 + c % (((kwL k :: T).length : Int) - 1)) (v := w) (fk := op2 addD (cE (.int 1)) (op2 modD (varE 2) (op2 subD (callB lenD (consA (varE 0) nilA)) (cE (.int 1))))) (fe := callF m_law_odd_number (consA (op2 fdivD (varE 2) (cE (.int 4))) nilA)) (ρ := [some (.lst ((kwL k :: T).map FS)), some (.int y), some (.int c)]) ((cf1 (x0 := .int (c / 4)) (by rw [op2_v (x := .int c) (y := .int 4) rfl rfl, fdivD_pos (by omega)]; omega)).trans eo) rfl (ixm _ (by omega)) (by omega) (by omega)
    rw [hj, show ((1 : Int) + (j : Int)).toNat = j + 1 by omega, List.set_cons_succ] at es
    have ok2 : ∀ v ∈ kwL k :: T.set j w, okW v := fun v hv => by
      rcases List.mem_cons.mp hv with e | hv
      · rw [e]; exact okW_kw k
      · rcases List.mem_or_eq_of_mem_set hv with q | q
        · exact okt v q
        · rw [q]; exact hw
    have len2 : (kwL k :: T.set j w).length = cnt k + 1 := by rw [List.length_cons, List.length_set, tl]
    rw [tk2 (T1 _ true (iff_of_true rfl (by omega))) es]
    simp only [List.set_cons_zero]
    rw [sk (T2 _ false (iff_of_false (by decide) (by omega))), sk (T3 2 _ false (iff_of_false (by decide) (by omega))), sk (T3 3 _ false (iff_of_false (by decide) (by omega))), sk (T5 _ false (iff_of_false (by decide) (by omega))), sk (T6 _ false (iff_of_false (by decide) (by omega))), fin49 ok2 (by omega)]
    refine ⟨_, rfl, q_bad ok2 (by rw [List.length_set]; omega) ⟨w, ?_, ew⟩⟩
    exact List.mem_of_getElem? (i := j) (by rw [List.getElem?_set_self jl])
  · -- a number more
    obtain ⟨v, v0, v1, en⟩ := number_ok c
    have ea := appS_map (f := FS) (i := 0) (xs := kwL k :: T) (v := wd v) (g := callF m_law_number (consA (varE 2) nilA)) (ρ := [some (.lst ((kwL k :: T).map FS)), some (.int y), some (.int c)]) ((cf1 (by rfl)).trans en) rfl (by omega)
    have ok2 : ∀ u ∈ kwL k :: (T ++ [wd v]), okW u := fun u hu => by
      rcases List.mem_cons.mp hu with e | hu
      · rw [e]; exact okW_kw k
      · rcases List.mem_append.mp hu with q | q
        · exact okt u q
        · rw [List.mem_singleton.mp q]; exact okW_wd v0 v1
    have len2 : (kwL k :: (T ++ [wd v])).length = cnt k + 2 := by rw [List.length_cons, List.length_append, tl]; rfl
    rw [sk (T1 _ false (iff_of_false (by decide) (by omega))), tk2 (T2 _ true (iff_of_true rfl (by omega))) ea]
    simp only [List.set_cons_zero]
    rw [show kwL k :: T ++ [wd v] = kwL k :: (T ++ [wd v]) from rfl]
    rw [sk (T3 2 _ false (iff_of_false (by decide) (by omega))), sk (T3 3 _ false (iff_of_false (by decide) (by omega))), sk (T5 _ false (iff_of_false (by decide) (by omega))), sk (T6 _ false (iff_of_false (by decide) (by omega))), fin49 ok2 (by omega)]
    refine ⟨_, rfl, q_none ok2 (by rw [List.length_append, tl]; simp; omega) (fun u hu => ?_) (fun j hj => row_ne (by simp) j (by omega)) fun j j4 j7 e => ?_⟩
    · rcases List.mem_append.mp hu with q | q
      · exact aqt u q
      · rw [List.mem_singleton.mp q]; exact ⟨v, aq_wd v0 v1⟩
    · have := kw_ne hk j7 e
      subst this
      rw [List.length_append, tl]
      simp
  · -- another word
    obtain ⟨u, hu, eu⟩ := ix_mod (xs := varL k) (f := FS) (by unfold varL; simp) c
    have w0e : op2 ixD (varE 0) (cE (.int 0)) [some (.lst ((kwL k :: T).map FS)), some (.int y), some (.int c)] = .ok (FS (kwL k)) := by
      rw [op2_v (x := .lst ((kwL k :: T).map FS)) (y := .int 0) rfl rfl]
      exact ix0_lst _ _
    have kl := kw_len k
    have el : lstE (consA (op2 addD (cE (.str "x")) (op2 ixD (varE 0) (cE (.int 0)))) (consA (op2 addD (op2 ixD (varE 0) (cE (.int 0))) (cE (.str "s"))) (consA (m0E upperG (op2 ixD (varE 0) (cE (.int 0)))) (consA (slG (op2 ixD (varE 0) (cE (.int 0))) (someO (cE (.int 1))) noO) nilA)))) [some (.lst ((kwL k :: T).map FS)), some (.int y), some (.int c)] = .ok (.lst ((varL k).map FS)) := by
      refine le4 ?_ ?_ ?_ ?_
      · rw [lit_x, op2_v (x := FS [120]) rfl w0e]
        exact addD_stL [120] (kwL k) (by simp; omega)
      · rw [lit_s, op2_v (y := FS [115]) w0e rfl]
        exact addD_stL (kwL k) [115] (by simp; omega)
      · unfold m0E
        rw [w0e, Vs.R.bind_ok]
        exact up_kw hk
      · unfold slG slE
        rw [w0e, Vs.R.bind_ok]
        show (((Vs.R.ok (some (1 : Int))).bind fun l => (Vs.R.ok none).bind fun u => slD (FS (kwL k)) l u)).bind immL = _
        rw [Vs.R.bind_ok, Vs.R.bind_ok]
        show (slD (.str (stL (kwL k))) (some ((1 : Nat) : Int)) none).bind immL = _
        rw [slD_stL _ _ (by omega), cutL_suf, Vs.R.bind_ok]
        rfl
    have es := setS_map (f := FS) (i := 0) (xs := kwL k :: T) (k := 0) (v := u) (fk := cE (.int 0)) (fe := imm (op2 ixD (lstE (consA (op2 addD (cE (.str "x")) (op2 ixD (varE 0) (cE (.int 0)))) (consA (op2 addD (op2 ixD (varE 0) (cE (.int 0))) (cE (.str "s"))) (consA (m0E upperG (op2 ixD (varE 0) (cE (.int 0)))) (consA (slG (op2 ixD (varE 0) (cE (.int 0))) (someO (cE (.int 1))) noO) nilA))))) (op2 modD (varE 2) (cE (.int 4))))) (ρ := [some (.lst ((kwL k :: T).map FS)), some (.int y), some (.int c)]) (imm_ok (by
      rw [op2_v el (y := .int (c % ((varL k).length : Int))) (by rw [op2_v (x := .int c) (y := .int 4) rfl rfl, modD_pos (by omega)]; rfl)]
      exact eu) (immD_str _)) rfl rfl (by omega) (by omega)
    have okv : ∀ k < 7, ∀ u ∈ varL k, (u.all fun c => decide (c < 256) && decide (c ≠ 32)) = true ∧ u.length ≤ 1000 ∧ ∀ j < 7, u ≠ kwL j := by decide
    obtain ⟨o1, o2, o3⟩ := okv k hk u hu
    have ok2 : ∀ v ∈ u :: T, okW v := fun v hv => (List.mem_cons.mp hv).elim (fun e => e ▸ okW_by o1 o2) (okt v)
    have len2 : (u :: T).length = cnt k + 1 := by rw [List.length_cons, tl]
    rw [sk (T1 _ false (iff_of_false (by decide) (by omega))), sk (T2 _ false (iff_of_false (by decide) (by omega))), tk2 (T3 2 _ true (iff_of_true rfl (by omega))) es]
    simp only [List.set_cons_zero]
    rw [show ((0 : Int)).toNat = 0 from rfl, List.set_cons_zero]
    rw [sk (T3 3 _ false (iff_of_false (by decide) (by omega))), sk (T5 _ false (iff_of_false (by decide) (by omega))), sk (T6 _ false (iff_of_false (by decide) (by omega))), fin49 ok2 (by omega)]
    refine ⟨_, rfl, q_none ok2 (by omega) aqt (fun j hj => ?_) fun j j4 j7 e => absurd e (o3 j j7)⟩
    by_cases e : T = []
    · subst e
      exact o3 j (by omega)
    · exact row_ne e j (by omega)
  · -- an empty word
    have a1 := Int.emod_nonneg c (show ((kwL k :: T).length : Int) + 1 ≠ 0 by omega)
    have a2 := Int.emod_lt_of_pos c (show (0 : Int) < ((kwL k :: T).length : Int) + 1 by omega)
    obtain ⟨j, hj⟩ : ∃ j : Nat, c % (((kwL k :: T).length : Int) + 1) = (j : Int) := ⟨_, (Int.toNat_of_nonneg a1).symm⟩
    have es := insS_ok (i := 0) (fk := op2 modD (varE 2) (op2 addD (callB lenD (consA (varE 0) nilA)) (cE (.int 1)))) (fe := cE (.str "")) (ρ := [some (.lst ((kwL k :: T).map FS)), some (.int y), some (.int c)]) (ds := (kwL k :: T).map FS) (d := FS []) (k := j) rfl (by
      rw [op2_v (x := .int c) (y := .int (((kwL k :: T).length : Int) + 1)) rfl (by rw [op2_v (ln _) (y := .int 1) rfl, addD_int]), modD_pos (by omega), hj]) (by rw [lit_e]; rfl) (by rw [List.length_map]; omega) (by omega)
    rw [← List.map_take, ← List.map_drop, show [FS []] = [([] : List Nat)].map FS from rfl, ← List.map_append, ← List.map_append] at es
    have aqk : ∀ k < 7, aq (kwL k) = none := by decide
    have ok2 : ∀ v ∈ (kwL k :: T).take j ++ [[]] ++ (kwL k :: T).drop j, okW v := fun v hv => by
      rcases List.mem_append.mp hv with hv | hv
      · rcases List.mem_append.mp hv with hv | hv
        · exact okw v (List.mem_of_mem_take hv)
        · rw [List.mem_singleton.mp hv]; exact okW_nil
      · exact okw v (List.mem_of_mem_drop hv)
    have len2 : ((kwL k :: T).take j ++ [[]] ++ (kwL k :: T).drop j).length = cnt k + 2 := by
      rw [List.length_append, List.length_append, List.length_take, List.length_drop, WL]
      simp only [List.length_cons, List.length_nil]
      omega
    rw [sk (T1 _ false (iff_of_false (by decide) (by omega))), sk (T2 _ false (iff_of_false (by decide) (by omega))), sk (T3 2 _ false (iff_of_false (by decide) (by omega))), tk2 (T3 3 _ true (iff_of_true rfl (by omega))) es]
    simp only [List.set_cons_zero]
    rw [sk (T5 _ false (iff_of_false (by decide) (by omega))), sk (T6 _ false (iff_of_false (by decide) (by omega))), fin49 ok2 (by omega)]
    refine ⟨_, rfl, ?_⟩
    cases j with
    | zero => exact q_bad (w0 := []) (wt := kwL k :: T) ok2 (by rw [WL]; omega) ⟨kwL k, List.mem_cons_self, aqk k hk⟩
    | succ j =>
      have e2 : (kwL k :: T).take (j + 1) ++ [[]] ++ (kwL k :: T).drop (j + 1) = kwL k :: (T.take j ++ [[]] ++ T.drop j) := by simp
      rw [e2] at ok2 len2 ⊢
      rw [List.length_cons] at len2
      exact q_bad ok2 (by omega) ⟨[], by simp, by decide⟩
  · -- a number less
    have a1 := Int.emod_nonneg c (show ((kwL k :: T).length : Int) - 1 ≠ 0 by omega)
    have a2 := Int.emod_lt_of_pos c (show (0 : Int) < ((kwL k :: T).length : Int) - 1 by omega)
    obtain ⟨j, hj⟩ : ∃ j : Nat, c % (((kwL k :: T).length : Int) - 1) = (j : Int) := ⟨_, (Int.toNat_of_nonneg a1).symm⟩
    have jl : j < T.length := by omega
    have es : popAtS 0 (op2 addD (cE (.int 1)) (op2 modD (varE 2) (op2 subD (callB lenD (consA (varE 0) nilA)) (cE (.int 1))))) [some (.lst ((kwL k :: T).map FS)), some (.int y), some (.int c)] = .nx [some (.lst ((kwL k :: T.eraseIdx j).map FS)), some (.int y), some (.int c)] := by
      unfold popAtS
      rw [show ([some (D.lst ((kwL k :: T).map FS)), some (.int y), some (.int c)] : Vs.Env)[0]? = some (some (.lst ((kwL k :: T).map FS))) from rfl]
      simp only
      rw [ixm _ (by omega), bindS_ok, hj]
      simp only
      rw [if_pos ⟨imF _, by omega, by rw [List.length_map]; omega, by omega⟩, show ((1 : Int) + (j : Int)).toNat = j + 1 by omega]
      show Sr.nx [some (.lst (((kwL k :: T).map FS).eraseIdx (j + 1))), some (.int y), some (.int c)] = _
      rw [List.map_cons, List.eraseIdx_cons_succ, List.map_cons, erase_map]
    have el : (T.eraseIdx j).length = cnt k - 1 := by rw [List.length_eraseIdx, if_pos jl, tl]
    have ok2 : ∀ v ∈ kwL k :: T.eraseIdx j, okW v := fun v hv => (List.mem_cons.mp hv).elim (fun e => e ▸ okW_kw k) fun q => okt v (List.mem_of_mem_eraseIdx q)
    have len2 : (kwL k :: T.eraseIdx j).length = cnt k := by rw [List.length_cons, el]; omega
    rw [sk (T1 _ false (iff_of_false (by decide) (by omega))), sk (T2 _ false (iff_of_false (by decide) (by omega))), sk (T3 2 _ false (iff_of_false (by decide) (by omega))), sk (T3 3 _ false (iff_of_false (by decide) (by omega))), tk2 (T5 _ true (iff_of_true rfl (by omega))) es]
    by_cases h1 : cnt k = 1
    · obtain ⟨ws, e1, e2⟩ := odd_row_ok c
      rw [tr2 (T6 _ true (iff_of_true rfl (by omega))) ((oddrow _).trans e1)]
      exact ⟨_, rfl, e2⟩
    · rw [sk (T6 _ false (iff_of_false (by decide) (by omega))), fin49 ok2 (by omega)]
      refine ⟨_, rfl, q_none ok2 (by omega) (fun u hu => aqt u (List.mem_of_mem_eraseIdx hu)) (fun q hq => row_ne (fun z => by rw [z] at el; simp at el; omega) q (by omega)) fun q q4 q7 e => ?_⟩
      have := kw_ne hk q7 e
      subst this
      omega
  · -- an odd row
    obtain ⟨ws, e1, e2⟩ := odd_row_ok c
    rw [sk (T1 _ false (iff_of_false (by decide) (by omega))), sk (T2 _ false (iff_of_false (by decide) (by omega))), sk (T3 2 _ false (iff_of_false (by decide) (by omega))), sk (T3 3 _ false (iff_of_false (by decide) (by omega))), sk (T5 _ false (iff_of_false (by decide) (by omega))), tr2 (T6 _ true (iff_of_true rfl (by omega))) ((oddrow _).trans e1)]
    exact ⟨_, rfl, e2⟩
theorem words_ok {k : Nat} (hk : k < 7) : m_law_words [.int (k : Int)] = .ok (.lst ((kwL k :: List.replicate (cnt k) []).map FS)) := by
  have e : ∀ (f : Vs.Env → R D) {ρ : Vs.Env}, True := fun _ _ => trivial
  rw [r_law_words]
  simp only [b_law_words]
  rw [lit0, lit1, lit2, lit3, lit4, lit5, lit6, lit_e]
  rcases (show k = 0 ∨ k = 1 ∨ k = 2 ∨ k = 3 ∨ k = 4 ∨ k = 5 ∨ k = 6 by omega) with rfl | rfl | rfl | rfl | rfl | rfl | rfl <;> rfl
theorem law_true : ∀ ns, Scr ns → m_law [.lst (ns.map D.int)] = .ok (.bl true) := by
  intro ns hs
  rw [r_law]
  simp only [b_law]
  obtain ⟨k, hz, hk⟩ : ∃ k : Nat, cell ns 0 % 7 = (k : Int) ∧ k < 7 := ⟨(cell ns 0 % 7).toNat, by omega, by omega⟩
  have cl : ∀ (i : Int) (_ : 0 ≤ i) (x1 x2 x3 x4 x5 : Option D), callF m_law_cell_at (consA (varE 0) (consA (cE (.int i)) nilA)) [some (.lst (ns.map D.int)), x1, x2, x3, x4, x5] = .ok (.int (cell ns i)) := fun i hi _ _ _ _ _ => (cf2 (by rfl) (by rfl)).trans (cell_at _ _ hi)
  rw [seqS_eq, asg_ok (d := .int (k : Int)) (by rw [op2_v (cl 0 (by omega) _ _ _ _ _) (y := .int 7) rfl, modD_pos (by omega), hz]), seq_nx]
  simp only [List.set_cons_zero, List.set_cons_succ]
  rw [seqS_eq, asg_ok (d := .lst ((kwL k :: List.replicate (cnt k) []).map FS)) ((cf1 (by rfl)).trans (words_ok hk)), seq_nx]
  simp only [List.set_cons_zero, List.set_cons_succ]
  have hc4 : cnt k ≤ 4 := by unfold cnt; split <;> omega
  rw [seqS_eq, forS]
  unfold itR
  rw [al2 (x0 := .int 1) (x1 := .int ((cnt k + 1 : Nat) : Int)) rfl ((cb1_ (by rfl)).trans (by rw [lenD_lst, List.length_map, List.length_cons, List.length_replicate])), R.bind_ok, rng2_ok (bnd_of (by omega) (by omega)) (bnd_of (by omega) (by omega)), bindS_ok, show (((cnt k + 1 : Nat) : Int) - 1).toNat = cnt k by omega]
  obtain ⟨ρ', f1, x3, xs, rfl, f2, f3⟩ := forL_go (tf := tgN 3) (b := setS 2 (varE 3) (callF m_law_number (consA (callF m_law_cell_at (consA (varE 0) (consA (varE 3) nilA))) nilA))) (ds := rngL 1 (cnt k)) (ρ := [some (.lst (ns.map D.int)), some (.int (k : Int)), some (.lst ((kwL k :: List.replicate (cnt k) []).map FS)), none, none, none])
    (fun t ρ => ∃ (x3 : Option D) (xs : List Int), ρ = [some (.lst (ns.map D.int)), some (.int (k : Int)), some (.lst ((kwL k :: (xs.map wd ++ List.replicate (cnt k - t) [])).map FS)), x3, none, none] ∧ xs.length = t ∧ ∀ x ∈ xs, 0 ≤ x ∧ x ≤ 9999)
    ⟨none, [], rfl, rfl, fun x hx => nomatch hx⟩ (fun t d hd ρ hi => by
      obtain ⟨x3, xs, rfl, g1, g2⟩ := hi
      obtain ⟨ht, rfl⟩ := rngL_at hd
      obtain ⟨n, n0, n1, en⟩ := number_ok (cell ns (1 + (t : Int)))
      refine ⟨_, rfl, ?_⟩
      have ec : callF m_law_cell_at (consA (varE 0) (consA (varE 3) nilA)) [some (.lst (ns.map D.int)), some (.int (k : Int)), some (.lst ((kwL k :: (xs.map wd ++ List.replicate (cnt k - t) [])).map FS)), some (.int (1 + (t : Int))), none, none] = .ok (.int (cell ns (1 + (t : Int)))) := (cf2 (by rfl) (by rfl)).trans (cell_at _ _ (by omega))
      have es := setS_map (f := FS) (i := 2) (xs := kwL k :: (xs.map wd ++ List.replicate (cnt k - t) [])) (k := 1 + (t : Int)) (v := wd n) (fk := varE 3) (fe := callF m_law_number (consA (callF m_law_cell_at (consA (varE 0) (consA (varE 3) nilA))) nilA)) (ρ := [some (.lst (ns.map D.int)), some (.int (k : Int)), some (.lst ((kwL k :: (xs.map wd ++ List.replicate (cnt k - t) [])).map FS)), some (.int (1 + (t : Int))), none, none]) ((cf1 ec).trans en) rfl rfl (by omega) (by rw [List.length_cons, List.length_append, List.length_map, List.length_replicate]; omega)
      show Go _ (setS _ _ _ [some (.lst (ns.map D.int)), some (.int (k : Int)), some (.lst ((kwL k :: (xs.map wd ++ List.replicate (cnt k - t) [])).map FS)), some (.int (1 + (t : Int))), none, none])
      rw [es]
      refine ⟨some (.int (1 + (t : Int))), xs ++ [n], ?_, by rw [List.length_append, g1]; rfl, fun x hx => ?_⟩
      · simp only [List.set_cons_zero, List.set_cons_succ]
        rw [show ((1 : Int) + (t : Int)).toNat = t + 1 by omega, List.set_cons_succ, show cnt k - t = (cnt k - (t + 1)) + 1 by omega, List.replicate_succ, List.set_append_right _ _ (by rw [List.length_map]; omega), List.length_map, g1, Nat.sub_self, List.set_cons_zero, List.map_append (f := wd), List.append_assoc]
        rfl
      · rcases List.mem_append.mp hx with q | q
        · exact g2 x q
        · rw [List.mem_singleton.mp q]; exact ⟨n0, n1⟩)
  rw [f1, seq_nx]
  rw [rngL_length, Nat.sub_self, List.replicate_zero, List.append_nil]
  rw [rngL_length] at f2
  have okw : ∀ w ∈ kwL k :: xs.map wd, okW w := fun w hw => by
    rcases List.mem_cons.mp hw with e | hw
    · rw [e]; exact okW_kw k
    · obtain ⟨x, hx, rfl⟩ := List.mem_map.mp hw
      exact okW_wd (f3 x hx).1 (f3 x hx).2
  have WL : (kwL k :: xs.map wd).length = cnt k + 1 := by rw [List.length_cons, List.length_map, f2]
  rw [seqS_eq, asg_ok (d := rowS (kwL k :: xs.map wd)) (by
    rw [litB, m1E_str (a := stL [32]) rfl]
    refine joinG_st (ws := kwL k :: xs.map wd) ?_
    have h2 := sum_len_le (n := 1000) (ws := kwL k :: xs.map wd) fun w hw => (okw w hw).ln
    have h3 : (kwL k :: xs.map wd).length * 1000 ≤ 99 * 1000 := Nat.mul_le_mul_right _ (by omega)
    simp only [List.length_singleton]
    omega), seq_nx]
  simp only [List.set_cons_zero, List.set_cons_succ]
  obtain ⟨row, eb, qb⟩ := spoiled_ok hk f2 f3 (y := cell ns 5 % 6) (by omega) (by omega) (cell ns 6)
  rw [seqS_eq, asg_ok (d := row) ((cf3 (by rfl) (by rw [op2_v (cl 5 (by omega) _ _ _ _ _) (y := .int 6) rfl, modD_pos (by omega)]) (cl 6 (by omega) _ _ _ _ _)).trans eb), seq_nx]
  simp only [List.set_cons_zero, List.set_cons_succ]
  obtain ⟨ks, ds, qg⟩ := q_good (wt := xs.map wd) hk okw (fun w hw => by
    obtain ⟨x, hx, rfl⟩ := List.mem_map.mp hw
    exact ⟨x, aq_wd (f3 x hx).1 (f3 x hx).2⟩) (by rw [List.length_map, f2])
  have er := right_ok hk qg
  rw [sk (notT_b (a := true) (boolR_b ((cf2 (by rfl) (by rfl)).trans er)))]
  rw [ret_ok (d := .bl true) (by
    rw [andE_b (a := true) (b := true) ((cf1 (by rfl)).trans (refused_ok qb)) ((cf2 (by rfl) (by rfl)).trans er)]
    rfl)]
  rfl

end Lw

namespace Lw
open PySem PySem.Spec PyProof.Rows L2 Vs
theorem all_mk {w : World} {K : PySem.W.Frag} {h : Heap} {mg : Str → Option Value} {fa : Addr} (X : K.In h) (G : h.Ns mainGlobals mg) (hfa : mg "law" = some (.ref fa)) (d_wall : DefK K "_wall" s_wall) (d_read_number : DefK K "read_number" s_read_number) (d_asked_number : DefK K "asked_number" s_asked_number) (d_question : DefK K "question" s_question) (d_law_cell_at : DefK K "_law_cell_at" s_law_cell_at) (d_law_words : DefK K "_law_words" s_law_words) (d_law_is_kind : DefK K "_law_is_kind" s_law_is_kind) (d_law_right : DefK K "_law_right" s_law_right) (d_law_number : DefK K "_law_number" s_law_number) (d_law_odd_number : DefK K "_law_odd_number" s_law_odd_number) (d_law_odd_row : DefK K "_law_odd_row" s_law_odd_row) (d_law_spoiled : DefK K "_law_spoiled" s_law_spoiled) (d_law_refused : DefK K "_law_refused" s_law_refused) (d_law : DefK K "law" s_law) (c_Question : ClsK K "Question") (c_Size : ClsK K "Size") (c_Bits : ClsK K "Bits") (c_Broad : ClsK K "Broad") (c_At : ClsK K "At") (c_Level : ClsK K "Level") (c_Piece : ClsK K "Piece") (o_At_i : FldK K "At" "i") (o_At_j : FldK K "At" "j") (o_Level_k : FldK K "Level" "k") (o_Piece_top : FldK K "Piece" "top") (o_Piece_left : FldK K "Piece" "left") (o_Piece_high : FldK K "Piece" "high") (o_Piece_wide : FldK K "Piece" "wide") (m_Question_answer : MetK K "Question" "answer" "Question.answer" s_Question_answer) (m_Size_answer : MetK K "Size" "answer" "Size.answer" s_Size_answer) (m_Bits_answer : MetK K "Bits" "answer" "Bits.answer" s_Bits_answer) (m_Broad_answer : MetK K "Broad" "answer" "Broad.answer" s_Broad_answer) (m_At_init : MetK K "At" "__init__" "At.__init__" s_At_init) (m_At_answer : MetK K "At" "answer" "At.answer" s_At_answer) (m_Level_init : MetK K "Level" "__init__" "Level.__init__" s_Level_init) (m_Level_answer : MetK K "Level" "answer" "Level.answer" s_Level_answer) (m_Piece_init : MetK K "Piece" "__init__" "Piece.__init__" s_Piece_init) (m_Piece_answer : MetK K "Piece" "answer" "Piece.answer" s_Piece_answer) (mk_At : MkC K "At") (mk_Level : MkC K "Level") (mk_Piece : MkC K "Piece") (n_ValueError : NoK K "ValueError") (n_isinstance : NoK K "isinstance") (n_len : NoK K "len") (n_list : NoK K "list") (n_range : NoK K "range") (n_str : NoK K "str") (g_FIGURES : ConK K "FIGURES" (.str "0123456789")) (x_NoBits : ExRK K "NoBits") (x_NoHead : ExRK K "NoHead") (x_NoLadder : ExRK K "NoLadder") (x_NoLevel : ExRK K "NoLevel") (x_NoPicture : ExRK K "NoPicture") (x_NoPiece : ExRK K "NoPiece") (x_NoRow : ExRK K "NoRow") (x_NoText : ExRK K "NoText") (x_TooMany : ExRK K "TooMany") (x_WaveError : ExRK K "WaveError") (p_NoRow_NoText : ExP K "NoRow" "NoText" false) (p_NoText_NoText : ExP K "NoText" "NoText" true) (p_NoRow_WaveError : ExP K "NoRow" "WaveError" true) (p_NoText_WaveError : ExP K "NoText" "WaveError" true) (e_NoRow : ExcK K "NoRow") (e_NoText : ExcK K "NoText") (i_NoRow_NoBits : KitO K "NoRow" "NoBits" false) (i_NoRow_NoHead : KitO K "NoRow" "NoHead" false) (i_NoRow_NoLadder : KitO K "NoRow" "NoLadder" false) (i_NoRow_NoLevel : KitO K "NoRow" "NoLevel" false) (i_NoRow_NoPicture : KitO K "NoRow" "NoPicture" false) (i_NoRow_NoPiece : KitO K "NoRow" "NoPiece" false) (i_NoRow_NoRow : KitO K "NoRow" "NoRow" true) (i_NoRow_NoText : KitO K "NoRow" "NoText" false) (i_NoRow_TooMany : KitO K "NoRow" "TooMany" false) (i_NoRow_ValueError : KitB K "NoRow" "ValueError" true) (i_NoText_NoBits : KitO K "NoText" "NoBits" false) (i_NoText_NoHead : KitO K "NoText" "NoHead" false) (i_NoText_NoLadder : KitO K "NoText" "NoLadder" false) (i_NoText_NoLevel : KitO K "NoText" "NoLevel" false) (i_NoText_NoPicture : KitO K "NoText" "NoPicture" false) (i_NoText_NoPiece : KitO K "NoText" "NoPiece" false) (i_NoText_NoRow : KitO K "NoText" "NoRow" false) (i_NoText_NoText : KitO K "NoText" "NoText" true) (i_NoText_TooMany : KitO K "NoText" "TooMany" false) (i_NoText_ValueError : KitB K "NoText" "ValueError" true) (ob_All : ObjK K "All") (ob_At : ObjK K "At") (ob_Bits : ObjK K "Bits") (ob_Broad : ObjK K "Broad") (ob_Level : ObjK K "Level") (ob_Piece : ObjK K "Piece") (ob_Question : ObjK K "Question") (ob_Size : ObjK K "Size") (io_All_All : KitO K "All" "All" true) (io_All_At : KitO K "All" "At" false) (io_All_Bits : KitO K "All" "Bits" false) (io_All_Broad : KitO K "All" "Broad" false) (io_All_Level : KitO K "All" "Level" false) (io_All_Piece : KitO K "All" "Piece" false) (io_All_Question : KitO K "All" "Question" true) (io_All_Size : KitO K "All" "Size" false) (io_At_All : KitO K "At" "All" false) (io_At_At : KitO K "At" "At" true) (io_At_Bits : KitO K "At" "Bits" false) (io_At_Broad : KitO K "At" "Broad" false) (io_At_Level : KitO K "At" "Level" false) (io_At_Piece : KitO K "At" "Piece" false) (io_At_Question : KitO K "At" "Question" true) (io_At_Size : KitO K "At" "Size" false) (io_Bits_All : KitO K "Bits" "All" false) (io_Bits_At : KitO K "Bits" "At" false) (io_Bits_Bits : KitO K "Bits" "Bits" true) (io_Bits_Broad : KitO K "Bits" "Broad" false) (io_Bits_Level : KitO K "Bits" "Level" false) (io_Bits_Piece : KitO K "Bits" "Piece" false) (io_Bits_Question : KitO K "Bits" "Question" true) (io_Bits_Size : KitO K "Bits" "Size" false) (io_Broad_All : KitO K "Broad" "All" false) (io_Broad_At : KitO K "Broad" "At" false) (io_Broad_Bits : KitO K "Broad" "Bits" false) (io_Broad_Broad : KitO K "Broad" "Broad" true) (io_Broad_Level : KitO K "Broad" "Level" false) (io_Broad_Piece : KitO K "Broad" "Piece" false) (io_Broad_Question : KitO K "Broad" "Question" true) (io_Broad_Size : KitO K "Broad" "Size" false) (io_Level_All : KitO K "Level" "All" false) (io_Level_At : KitO K "Level" "At" false) (io_Level_Bits : KitO K "Level" "Bits" false) (io_Level_Broad : KitO K "Level" "Broad" false) (io_Level_Level : KitO K "Level" "Level" true) (io_Level_Piece : KitO K "Level" "Piece" false) (io_Level_Question : KitO K "Level" "Question" true) (io_Level_Size : KitO K "Level" "Size" false) (io_Piece_All : KitO K "Piece" "All" false) (io_Piece_At : KitO K "Piece" "At" false) (io_Piece_Bits : KitO K "Piece" "Bits" false) (io_Piece_Broad : KitO K "Piece" "Broad" false) (io_Piece_Level : KitO K "Piece" "Level" false) (io_Piece_Piece : KitO K "Piece" "Piece" true) (io_Piece_Question : KitO K "Piece" "Question" true) (io_Piece_Size : KitO K "Piece" "Size" false) (io_Size_All : KitO K "Size" "All" false) (io_Size_At : KitO K "Size" "At" false) (io_Size_Bits : KitO K "Size" "Bits" false) (io_Size_Broad : KitO K "Size" "Broad" false) (io_Size_Level : KitO K "Size" "Level" false) (io_Size_Piece : KitO K "Size" "Piece" false) (io_Size_Question : KitO K "Size" "Question" true) (io_Size_Size : KitO K "Size" "Size" true) (mo_All : MkOC K "All") (mo_Bits : MkOC K "Bits") (mo_Broad : MkOC K "Broad") (mo_Size : MkOC K "Size") :
    ∃ fd : FuncData, (∀ (s : Shared) (u : Value), BindsTo s fd ⟨[u], []⟩ [("_law_script", u)]) ∧ ∀ base : Heap, K.In base → base.Ns mainGlobals mg → FnOk PySem.Challenge.rw_liftwave_k49_rows_read.prog w K mg base (L2.CX PySem.Challenge.rw_liftwave_k49_rows_read.prog w) 5 fa fd ["_law_script"] (spLaw K) := by
  have T : Txt w K mg := ⟨(ft_cons c_Question fr_nil (ft_cons c_Size fr_nil (ft_cons c_Bits fr_nil (ft_cons c_Broad fr_nil (ft_cons c_At (fr_cons o_At_i (fr_cons o_At_j fr_nil)) (ft_cons c_Level (fr_cons o_Level_k fr_nil) (ft_cons c_Piece (fr_cons o_Piece_top (fr_cons o_Piece_left (fr_cons o_Piece_high (fr_cons o_Piece_wide fr_nil)))) ft_nil))))))), exR_of X G x_NoBits, exR_of X G x_NoHead, exR_of X G x_NoLadder, exR_of X G x_NoLevel, exR_of X G x_NoPicture, exR_of X G x_NoPiece, exR_of X G x_NoRow, exR_of X G x_NoText, exR_of X G x_TooMany, exR_of X G x_WaveError, (exM_cons X G p_NoRow_NoText (exM_cons X G p_NoText_NoText (exM_nil (let ⟨C, _, _, _, _, q, _⟩ := (exR_of X G x_NoText).ex; ⟨C, q⟩)))), (exM_cons X G p_NoRow_WaveError (exM_cons X G p_NoText_WaveError (exM_nil (let ⟨C, _, _, _, _, q, _⟩ := (exR_of X G x_WaveError).ex; ⟨C, q⟩)))), (isT_cons (isRow_cons (isP_own X G e_NoRow i_NoRow_NoBits) (isRow_cons (isP_own X G e_NoRow i_NoRow_NoHead) (isRow_cons (isP_own X G e_NoRow i_NoRow_NoLadder) (isRow_cons (isP_own X G e_NoRow i_NoRow_NoLevel) (isRow_cons (isP_own X G e_NoRow i_NoRow_NoPicture) (isRow_cons (isP_own X G e_NoRow i_NoRow_NoPiece) (isRow_cons (isP_own X G e_NoRow i_NoRow_NoRow) (isRow_cons (isP_own X G e_NoRow i_NoRow_NoText) (isRow_cons (isP_own X G e_NoRow i_NoRow_TooMany) (isRow_cons (isP_blt X G e_NoRow i_NoRow_ValueError) isRow_nil)))))))))) (isT_cons (isRow_cons (isP_own X G e_NoText i_NoText_NoBits) (isRow_cons (isP_own X G e_NoText i_NoText_NoHead) (isRow_cons (isP_own X G e_NoText i_NoText_NoLadder) (isRow_cons (isP_own X G e_NoText i_NoText_NoLevel) (isRow_cons (isP_own X G e_NoText i_NoText_NoPicture) (isRow_cons (isP_own X G e_NoText i_NoText_NoPiece) (isRow_cons (isP_own X G e_NoText i_NoText_NoRow) (isRow_cons (isP_own X G e_NoText i_NoText_NoText) (isRow_cons (isP_own X G e_NoText i_NoText_TooMany) (isRow_cons (isP_blt X G e_NoText i_NoText_ValueError) isRow_nil)))))))))) isT_nil)), (isTO_cons (isRowO_cons (isPO_own X G ob_All io_All_All) (isRowO_cons (isPO_own X G ob_All io_All_At) (isRowO_cons (isPO_own X G ob_All io_All_Bits) (isRowO_cons (isPO_own X G ob_All io_All_Broad) (isRowO_cons (isPO_own X G ob_All io_All_Level) (isRowO_cons (isPO_own X G ob_All io_All_Piece) (isRowO_cons (isPO_own X G ob_All io_All_Question) (isRowO_cons (isPO_own X G ob_All io_All_Size) isRowO_nil)))))))) (isTO_cons (isRowO_cons (isPO_own X G ob_At io_At_All) (isRowO_cons (isPO_own X G ob_At io_At_At) (isRowO_cons (isPO_own X G ob_At io_At_Bits) (isRowO_cons (isPO_own X G ob_At io_At_Broad) (isRowO_cons (isPO_own X G ob_At io_At_Level) (isRowO_cons (isPO_own X G ob_At io_At_Piece) (isRowO_cons (isPO_own X G ob_At io_At_Question) (isRowO_cons (isPO_own X G ob_At io_At_Size) isRowO_nil)))))))) (isTO_cons (isRowO_cons (isPO_own X G ob_Bits io_Bits_All) (isRowO_cons (isPO_own X G ob_Bits io_Bits_At) (isRowO_cons (isPO_own X G ob_Bits io_Bits_Bits) (isRowO_cons (isPO_own X G ob_Bits io_Bits_Broad) (isRowO_cons (isPO_own X G ob_Bits io_Bits_Level) (isRowO_cons (isPO_own X G ob_Bits io_Bits_Piece) (isRowO_cons (isPO_own X G ob_Bits io_Bits_Question) (isRowO_cons (isPO_own X G ob_Bits io_Bits_Size) isRowO_nil)))))))) (isTO_cons (isRowO_cons (isPO_own X G ob_Broad io_Broad_All) (isRowO_cons (isPO_own X G ob_Broad io_Broad_At) (isRowO_cons (isPO_own X G ob_Broad io_Broad_Bits) (isRowO_cons (isPO_own X G ob_Broad io_Broad_Broad) (isRowO_cons (isPO_own X G ob_Broad io_Broad_Level) (isRowO_cons (isPO_own X G ob_Broad io_Broad_Piece) (isRowO_cons (isPO_own X G ob_Broad io_Broad_Question) (isRowO_cons (isPO_own X G ob_Broad io_Broad_Size) isRowO_nil)))))))) (isTO_cons (isRowO_cons (isPO_own X G ob_Level io_Level_All) (isRowO_cons (isPO_own X G ob_Level io_Level_At) (isRowO_cons (isPO_own X G ob_Level io_Level_Bits) (isRowO_cons (isPO_own X G ob_Level io_Level_Broad) (isRowO_cons (isPO_own X G ob_Level io_Level_Level) (isRowO_cons (isPO_own X G ob_Level io_Level_Piece) (isRowO_cons (isPO_own X G ob_Level io_Level_Question) (isRowO_cons (isPO_own X G ob_Level io_Level_Size) isRowO_nil)))))))) (isTO_cons (isRowO_cons (isPO_own X G ob_Piece io_Piece_All) (isRowO_cons (isPO_own X G ob_Piece io_Piece_At) (isRowO_cons (isPO_own X G ob_Piece io_Piece_Bits) (isRowO_cons (isPO_own X G ob_Piece io_Piece_Broad) (isRowO_cons (isPO_own X G ob_Piece io_Piece_Level) (isRowO_cons (isPO_own X G ob_Piece io_Piece_Piece) (isRowO_cons (isPO_own X G ob_Piece io_Piece_Question) (isRowO_cons (isPO_own X G ob_Piece io_Piece_Size) isRowO_nil)))))))) (isTO_cons (isRowO_cons (isPO_own X G ob_Size io_Size_All) (isRowO_cons (isPO_own X G ob_Size io_Size_At) (isRowO_cons (isPO_own X G ob_Size io_Size_Bits) (isRowO_cons (isPO_own X G ob_Size io_Size_Broad) (isRowO_cons (isPO_own X G ob_Size io_Size_Level) (isRowO_cons (isPO_own X G ob_Size io_Size_Piece) (isRowO_cons (isPO_own X G ob_Size io_Size_Question) (isRowO_cons (isPO_own X G ob_Size io_Size_Size) isRowO_nil)))))))) isTO_nil))))))), objM_of X G ob_All, objM_of X G ob_At, objM_of X G ob_Bits, objM_of X G ob_Broad, objM_of X G ob_Level, objM_of X G ob_Piece, objM_of X G ob_Question, objM_of X G ob_Size, mkOM_of X G mo_All, mkOM_of X G mo_Bits, mkOM_of X G mo_Broad, mkOM_of X G mo_Size, no_of X G n_ValueError, no_of X G n_isinstance, no_of X G n_len, no_of X G n_list, no_of X G n_range, no_of X G n_str, con_of X G g_FIGURES⟩
  refine law_end (k := 4) (N := ["_law_script", "_law_kind", "_law_words_here", "_law_k", "_law_row", "_law_bad"]) (b := b_law) (own' := []) (defL_of X G hfa d_law) sc_law (by decide) (fun _ _ _ _ _ _ s v => .of_eq rfl) (fun base _ _ => ?_) Lw.law_true
  have k_wall := c_wall (P := PySem.Challenge.rw_liftwave_k49_rows_read.prog) (w := w) (base := base) T (def_of X G d_wall)
  have k_read_number := c_read_number (P := PySem.Challenge.rw_liftwave_k49_rows_read.prog) (w := w) (base := base) T (def_of X G d_read_number)
  have k_Question_answer := c_Question_answer (P := PySem.Challenge.rw_liftwave_k49_rows_read.prog) (w := w) (base := base) T (mdef_of X G c_Question m_Question_answer) k_wall
  have k_Size_answer := c_Size_answer (P := PySem.Challenge.rw_liftwave_k49_rows_read.prog) (w := w) (base := base) T (mdef_of X G c_Size m_Size_answer) k_wall
  have k_Bits_answer := c_Bits_answer (P := PySem.Challenge.rw_liftwave_k49_rows_read.prog) (w := w) (base := base) T (mdef_of X G c_Bits m_Bits_answer) k_wall
  have k_Broad_answer := c_Broad_answer (P := PySem.Challenge.rw_liftwave_k49_rows_read.prog) (w := w) (base := base) T (mdef_of X G c_Broad m_Broad_answer) k_wall
  have k_At_init := c_At_init (P := PySem.Challenge.rw_liftwave_k49_rows_read.prog) (w := w) (base := base) T (mdef_of X G c_At m_At_init) mk_At
  have k_At_answer := c_At_answer (P := PySem.Challenge.rw_liftwave_k49_rows_read.prog) (w := w) (base := base) T (mdef_of X G c_At m_At_answer) k_wall
  have k_Level_init := c_Level_init (P := PySem.Challenge.rw_liftwave_k49_rows_read.prog) (w := w) (base := base) T (mdef_of X G c_Level m_Level_init) mk_Level
  have k_Level_answer := c_Level_answer (P := PySem.Challenge.rw_liftwave_k49_rows_read.prog) (w := w) (base := base) T (mdef_of X G c_Level m_Level_answer) k_wall
  have k_Piece_init := c_Piece_init (P := PySem.Challenge.rw_liftwave_k49_rows_read.prog) (w := w) (base := base) T (mdef_of X G c_Piece m_Piece_init) mk_Piece
  have k_Piece_answer := c_Piece_answer (P := PySem.Challenge.rw_liftwave_k49_rows_read.prog) (w := w) (base := base) T (mdef_of X G c_Piece m_Piece_answer) k_wall
  have k_asked_number := c_asked_number (P := PySem.Challenge.rw_liftwave_k49_rows_read.prog) (w := w) (base := base) T (def_of X G d_asked_number) k_read_number
  have k_question := c_question (P := PySem.Challenge.rw_liftwave_k49_rows_read.prog) (w := w) (base := base) T (def_of X G d_question) k_asked_number k_At_init k_Level_init k_Piece_init
  have k_law_cell_at := c_law_cell_at (P := PySem.Challenge.rw_liftwave_k49_rows_read.prog) (w := w) (base := base) T (def_of X G d_law_cell_at)
  have k_law_words := c_law_words (P := PySem.Challenge.rw_liftwave_k49_rows_read.prog) (w := w) (base := base) T (def_of X G d_law_words)
  have k_law_is_kind := c_law_is_kind (P := PySem.Challenge.rw_liftwave_k49_rows_read.prog) (w := w) (base := base) T (def_of X G d_law_is_kind)
  have k_law_right := c_law_right (P := PySem.Challenge.rw_liftwave_k49_rows_read.prog) (w := w) (base := base) T (def_of X G d_law_right) k_question k_law_is_kind
  have k_law_number := c_law_number (P := PySem.Challenge.rw_liftwave_k49_rows_read.prog) (w := w) (base := base) T (def_of X G d_law_number)
  have k_law_odd_number := c_law_odd_number (P := PySem.Challenge.rw_liftwave_k49_rows_read.prog) (w := w) (base := base) T (def_of X G d_law_odd_number)
  have k_law_odd_row := c_law_odd_row (P := PySem.Challenge.rw_liftwave_k49_rows_read.prog) (w := w) (base := base) T (def_of X G d_law_odd_row)
  have k_law_spoiled := c_law_spoiled (P := PySem.Challenge.rw_liftwave_k49_rows_read.prog) (w := w) (base := base) T (def_of X G d_law_spoiled) k_law_odd_number k_law_number k_law_odd_row
  have k_law_refused := c_law_refused (P := PySem.Challenge.rw_liftwave_k49_rows_read.prog) (w := w) (base := base) T (def_of X G d_law_refused) k_question
  exact v_law T k_law_cell_at k_law_words k_law_number k_law_spoiled k_law_right k_law_refused
end Lw
open PySem PySem.W PyProof.Rows in
set_option maxRecDepth 100000 in
set_option maxHeartbeats 0 in
theorem PySem.Challenge.cw_liftwave_k49_rows_read_holds : PySem.Challenge.rw_liftwave_k49_rows_read.Holds := by
  w_on; o_law; k_head; (case hw => w_witness2)
  k_fill
  refine Vs.walk (l := PySem.Challenge.rw_liftwave_k49_rows_read) (k := 5) rfl rfl ⟨rfl, by decide, by decide⟩ (fun w h Y => PySem.W.kIn_of Y) ?F
  case F =>
    intro w mg fa h KX G hmg
    refine' Lw.all_mk KX G hmg ?d_wall ?d_read_number ?d_asked_number ?d_question ?d_law_cell_at ?d_law_words ?d_law_is_kind ?d_law_right ?d_law_number ?d_law_odd_number ?d_law_odd_row ?d_law_spoiled ?d_law_refused ?d_law ?c_Question ?c_Size ?c_Bits ?c_Broad ?c_At ?c_Level ?c_Piece ?o_At_i ?o_At_j ?o_Level_k ?o_Piece_top ?o_Piece_left ?o_Piece_high ?o_Piece_wide ?m_Question_answer ?m_Size_answer ?m_Bits_answer ?m_Broad_answer ?m_At_init ?m_At_answer ?m_Level_init ?m_Level_answer ?m_Piece_init ?m_Piece_answer ?mk_At ?mk_Level ?mk_Piece ?n_ValueError ?n_isinstance ?n_len ?n_list ?n_range ?n_str ?g_FIGURES ?x_NoBits ?x_NoHead ?x_NoLadder ?x_NoLevel ?x_NoPicture ?x_NoPiece ?x_NoRow ?x_NoText ?x_TooMany ?x_WaveError ?p_NoRow_NoText ?p_NoText_NoText ?p_NoRow_WaveError ?p_NoText_WaveError ?e_NoRow ?e_NoText ?i_NoRow_NoBits ?i_NoRow_NoHead ?i_NoRow_NoLadder ?i_NoRow_NoLevel ?i_NoRow_NoPicture ?i_NoRow_NoPiece ?i_NoRow_NoRow ?i_NoRow_NoText ?i_NoRow_TooMany ?i_NoRow_ValueError ?i_NoText_NoBits ?i_NoText_NoHead ?i_NoText_NoLadder ?i_NoText_NoLevel ?i_NoText_NoPicture ?i_NoText_NoPiece ?i_NoText_NoRow ?i_NoText_NoText ?i_NoText_TooMany ?i_NoText_ValueError ?ob_All ?ob_At ?ob_Bits ?ob_Broad ?ob_Level ?ob_Piece ?ob_Question ?ob_Size ?io_All_All ?io_All_At ?io_All_Bits ?io_All_Broad ?io_All_Level ?io_All_Piece ?io_All_Question ?io_All_Size ?io_At_All ?io_At_At ?io_At_Bits ?io_At_Broad ?io_At_Level ?io_At_Piece ?io_At_Question ?io_At_Size ?io_Bits_All ?io_Bits_At ?io_Bits_Bits ?io_Bits_Broad ?io_Bits_Level ?io_Bits_Piece ?io_Bits_Question ?io_Bits_Size ?io_Broad_All ?io_Broad_At ?io_Broad_Bits ?io_Broad_Broad ?io_Broad_Level ?io_Broad_Piece ?io_Broad_Question ?io_Broad_Size ?io_Level_All ?io_Level_At ?io_Level_Bits ?io_Level_Broad ?io_Level_Level ?io_Level_Piece ?io_Level_Question ?io_Level_Size ?io_Piece_All ?io_Piece_At ?io_Piece_Bits ?io_Piece_Broad ?io_Piece_Level ?io_Piece_Piece ?io_Piece_Question ?io_Piece_Size ?io_Size_All ?io_Size_At ?io_Size_Bits ?io_Size_Broad ?io_Size_Level ?io_Size_Piece ?io_Size_Question ?io_Size_Size ?mo_All ?mo_Bits ?mo_Broad ?mo_Size
    (case c_Question => refine' Vs.clsK_mk ?a ?b ?c ?d ?e; (case a => k_is); (case b => k_is); (case c => k_is); (case d => k_is); (case e => k_is))
    (case c_Size => refine' Vs.clsK_mk ?a ?b ?c ?d ?e; (case a => k_is); (case b => k_is); (case c => k_is); (case d => k_is); (case e => k_is))
    (case c_Bits => refine' Vs.clsK_mk ?a ?b ?c ?d ?e; (case a => k_is); (case b => k_is); (case c => k_is); (case d => k_is); (case e => k_is))
    (case c_Broad => refine' Vs.clsK_mk ?a ?b ?c ?d ?e; (case a => k_is); (case b => k_is); (case c => k_is); (case d => k_is); (case e => k_is))
    (case c_At => refine' Vs.clsK_mk ?a ?b ?c ?d ?e; (case a => k_is); (case b => k_is); (case c => k_is); (case d => k_is); (case e => k_is))
    (case o_At_i => refine' Vs.fldK_mk ?a ?b; (case a => k_is); (case b => k_is))
    (case o_At_j => refine' Vs.fldK_mk ?a ?b; (case a => k_is); (case b => k_is))
    (case c_Level => refine' Vs.clsK_mk ?a ?b ?c ?d ?e; (case a => k_is); (case b => k_is); (case c => k_is); (case d => k_is); (case e => k_is))
    (case o_Level_k => refine' Vs.fldK_mk ?a ?b; (case a => k_is); (case b => k_is))
    (case c_Piece => refine' Vs.clsK_mk ?a ?b ?c ?d ?e; (case a => k_is); (case b => k_is); (case c => k_is); (case d => k_is); (case e => k_is))
    (case o_Piece_top => refine' Vs.fldK_mk ?a ?b; (case a => k_is); (case b => k_is))
    (case o_Piece_left => refine' Vs.fldK_mk ?a ?b; (case a => k_is); (case b => k_is))
    (case o_Piece_high => refine' Vs.fldK_mk ?a ?b; (case a => k_is); (case b => k_is))
    (case o_Piece_wide => refine' Vs.fldK_mk ?a ?b; (case a => k_is); (case b => k_is))
    (case m_Question_answer => refine' Vs.metK_mk ?a ?b ?c ?d ?e ?f; (case a => k_is); (case b => k_is); (case c => k_is); (case d => k_is); (case e => k_is); (case f => k_is))
    (case m_Size_answer => refine' Vs.metK_mk ?a ?b ?c ?d ?e ?f; (case a => k_is); (case b => k_is); (case c => k_is); (case d => k_is); (case e => k_is); (case f => k_is))
    (case m_Bits_answer => refine' Vs.metK_mk ?a ?b ?c ?d ?e ?f; (case a => k_is); (case b => k_is); (case c => k_is); (case d => k_is); (case e => k_is); (case f => k_is))
    (case m_Broad_answer => refine' Vs.metK_mk ?a ?b ?c ?d ?e ?f; (case a => k_is); (case b => k_is); (case c => k_is); (case d => k_is); (case e => k_is); (case f => k_is))
    (case m_At_init => refine' Vs.metK_mk ?a ?b ?c ?d ?e ?f; (case a => k_is); (case b => k_is); (case c => k_is); (case d => k_is); (case e => k_is); (case f => k_is))
    (case m_At_answer => refine' Vs.metK_mk ?a ?b ?c ?d ?e ?f; (case a => k_is); (case b => k_is); (case c => k_is); (case d => k_is); (case e => k_is); (case f => k_is))
    (case m_Level_init => refine' Vs.metK_mk ?a ?b ?c ?d ?e ?f; (case a => k_is); (case b => k_is); (case c => k_is); (case d => k_is); (case e => k_is); (case f => k_is))
    (case m_Level_answer => refine' Vs.metK_mk ?a ?b ?c ?d ?e ?f; (case a => k_is); (case b => k_is); (case c => k_is); (case d => k_is); (case e => k_is); (case f => k_is))
    (case m_Piece_init => refine' Vs.metK_mk ?a ?b ?c ?d ?e ?f; (case a => k_is); (case b => k_is); (case c => k_is); (case d => k_is); (case e => k_is); (case f => k_is))
    (case m_Piece_answer => refine' Vs.metK_mk ?a ?b ?c ?d ?e ?f; (case a => k_is); (case b => k_is); (case c => k_is); (case d => k_is); (case e => k_is); (case f => k_is))
    (case mk_At => refine' Vs.mkC_mk ?a ?b ?c; (case a => k_is); (case b => k_is); (case c => k_is))
    (case mk_Level => refine' Vs.mkC_mk ?a ?b ?c; (case a => k_is); (case b => k_is); (case c => k_is))
    (case mk_Piece => refine' Vs.mkC_mk ?a ?b ?c; (case a => k_is); (case b => k_is); (case c => k_is))
    (case d_wall => refine' Vs.defK_mk ?a ?l ?c ?k; (case a => k_is); (case l => k_is); (case c => k_is); (case k => k_is))
    (case d_read_number => refine' Vs.defK_mk ?a ?l ?c ?k; (case a => k_is); (case l => k_is); (case c => k_is); (case k => k_is))
    (case d_asked_number => refine' Vs.defK_mk ?a ?l ?c ?k; (case a => k_is); (case l => k_is); (case c => k_is); (case k => k_is))
    (case d_question => refine' Vs.defK_mk ?a ?l ?c ?k; (case a => k_is); (case l => k_is); (case c => k_is); (case k => k_is))
    (case d_law_cell_at => refine' Vs.defK_mk ?a ?l ?c ?k; (case a => k_is); (case l => k_is); (case c => k_is); (case k => k_is))
    (case d_law_words => refine' Vs.defK_mk ?a ?l ?c ?k; (case a => k_is); (case l => k_is); (case c => k_is); (case k => k_is))
    (case d_law_is_kind => refine' Vs.defK_mk ?a ?l ?c ?k; (case a => k_is); (case l => k_is); (case c => k_is); (case k => k_is))
    (case d_law_right => refine' Vs.defK_mk ?a ?l ?c ?k; (case a => k_is); (case l => k_is); (case c => k_is); (case k => k_is))
    (case d_law_number => refine' Vs.defK_mk ?a ?l ?c ?k; (case a => k_is); (case l => k_is); (case c => k_is); (case k => k_is))
    (case d_law_odd_number => refine' Vs.defK_mk ?a ?l ?c ?k; (case a => k_is); (case l => k_is); (case c => k_is); (case k => k_is))
    (case d_law_odd_row => refine' Vs.defK_mk ?a ?l ?c ?k; (case a => k_is); (case l => k_is); (case c => k_is); (case k => k_is))
    (case d_law_spoiled => refine' Vs.defK_mk ?a ?l ?c ?k; (case a => k_is); (case l => k_is); (case c => k_is); (case k => k_is))
    (case d_law_refused => refine' Vs.defK_mk ?a ?l ?c ?k; (case a => k_is); (case l => k_is); (case c => k_is); (case k => k_is))
    (case d_law => refine' Vs.defK_mk ?a ?l ?c ?k; (case a => k_is); (case l => k_is); (case c => k_is); (case k => k_is))
    (case n_ValueError => (unfold Vs.NoK; k_is))
    (case n_isinstance => (unfold Vs.NoK; k_is))
    (case n_len => (unfold Vs.NoK; k_is))
    (case n_list => (unfold Vs.NoK; k_is))
    (case n_range => (unfold Vs.NoK; k_is))
    (case n_str => (unfold Vs.NoK; k_is))
    (case g_FIGURES => refine' Vs.conS_mk ?a; (case a => k_is))
    (case x_NoBits => refine' Vs.exRK_mk PySem.F.excBase_ValueError ?a ?e ?k ?s ?t; (case a => k_is); (case e => k_exc); (case k => k_is); (case s => k_is); (case t => k_is))
    (case x_NoHead => refine' Vs.exRK_mk PySem.F.excBase_ValueError ?a ?e ?k ?s ?t; (case a => k_is); (case e => k_exc); (case k => k_is); (case s => k_is); (case t => k_is))
    (case x_NoLadder => refine' Vs.exRK_mk PySem.F.excBase_ValueError ?a ?e ?k ?s ?t; (case a => k_is); (case e => k_exc); (case k => k_is); (case s => k_is); (case t => k_is))
    (case x_NoLevel => refine' Vs.exRK_mk PySem.F.excBase_ValueError ?a ?e ?k ?s ?t; (case a => k_is); (case e => k_exc); (case k => k_is); (case s => k_is); (case t => k_is))
    (case x_NoPicture => refine' Vs.exRK_mk PySem.F.excBase_ValueError ?a ?e ?k ?s ?t; (case a => k_is); (case e => k_exc); (case k => k_is); (case s => k_is); (case t => k_is))
    (case x_NoPiece => refine' Vs.exRK_mk PySem.F.excBase_ValueError ?a ?e ?k ?s ?t; (case a => k_is); (case e => k_exc); (case k => k_is); (case s => k_is); (case t => k_is))
    (case x_NoRow => refine' Vs.exRK_mk PySem.F.excBase_ValueError ?a ?e ?k ?s ?t; (case a => k_is); (case e => k_exc); (case k => k_is); (case s => k_is); (case t => k_is))
    (case x_NoText => refine' Vs.exRK_mk PySem.F.excBase_ValueError ?a ?e ?k ?s ?t; (case a => k_is); (case e => k_exc); (case k => k_is); (case s => k_is); (case t => k_is))
    (case x_TooMany => refine' Vs.exRK_mk PySem.F.excBase_ValueError ?a ?e ?k ?s ?t; (case a => k_is); (case e => k_exc); (case k => k_is); (case s => k_is); (case t => k_is))
    (case x_WaveError => refine' Vs.exRK_mk PySem.F.excBase_ValueError ?a ?e ?k ?s ?t; (case a => k_is); (case e => k_exc); (case k => k_is); (case s => k_is); (case t => k_is))
    (case p_NoRow_NoText => refine' Vs.exP_mk ?a ?b ?c ?d ?e ?f; (case a => k_is); (case b => k_is); (case c => k_is); (case d => k_is); (case e => k_is); (case f => k_is))
    (case p_NoText_NoText => refine' Vs.exP_mk ?a ?b ?c ?d ?e ?f; (case a => k_is); (case b => k_is); (case c => k_is); (case d => k_is); (case e => k_is); (case f => k_is))
    (case p_NoRow_WaveError => refine' Vs.exP_mk ?a ?b ?c ?d ?e ?f; (case a => k_is); (case b => k_is); (case c => k_is); (case d => k_is); (case e => k_is); (case f => k_is))
    (case p_NoText_WaveError => refine' Vs.exP_mk ?a ?b ?c ?d ?e ?f; (case a => k_is); (case b => k_is); (case c => k_is); (case d => k_is); (case e => k_is); (case f => k_is))
    (case e_NoRow => refine' Vs.excK_mk ?a ?b ?c ?d ?e ?f ?g ?h ?i; (case a => k_is); (case b => k_is); (case c => k_is); (case d => k_is); (case e => k_is); (case f => k_is); (case g => k_is); (case h => k_is); (case i => k_is))
    (case i_NoRow_NoBits => refine' Vs.kitO_mk ?a ?b ?c ?d ?e ?f; (case a => k_is); (case b => k_is); (case c => k_is); (case d => k_is); (case e => k_is); (case f => first | exact .inl rfl | exact .inr (by decide)))
    (case i_NoRow_NoHead => refine' Vs.kitO_mk ?a ?b ?c ?d ?e ?f; (case a => k_is); (case b => k_is); (case c => k_is); (case d => k_is); (case e => k_is); (case f => first | exact .inl rfl | exact .inr (by decide)))
    (case i_NoRow_NoLadder => refine' Vs.kitO_mk ?a ?b ?c ?d ?e ?f; (case a => k_is); (case b => k_is); (case c => k_is); (case d => k_is); (case e => k_is); (case f => first | exact .inl rfl | exact .inr (by decide)))
    (case i_NoRow_NoLevel => refine' Vs.kitO_mk ?a ?b ?c ?d ?e ?f; (case a => k_is); (case b => k_is); (case c => k_is); (case d => k_is); (case e => k_is); (case f => first | exact .inl rfl | exact .inr (by decide)))
    (case i_NoRow_NoPicture => refine' Vs.kitO_mk ?a ?b ?c ?d ?e ?f; (case a => k_is); (case b => k_is); (case c => k_is); (case d => k_is); (case e => k_is); (case f => first | exact .inl rfl | exact .inr (by decide)))
    (case i_NoRow_NoPiece => refine' Vs.kitO_mk ?a ?b ?c ?d ?e ?f; (case a => k_is); (case b => k_is); (case c => k_is); (case d => k_is); (case e => k_is); (case f => first | exact .inl rfl | exact .inr (by decide)))
    (case i_NoRow_NoRow => refine' Vs.kitO_mk ?a ?b ?c ?d ?e ?f; (case a => k_is); (case b => k_is); (case c => k_is); (case d => k_is); (case e => k_is); (case f => first | exact .inl rfl | exact .inr (by decide)))
    (case i_NoRow_NoText => refine' Vs.kitO_mk ?a ?b ?c ?d ?e ?f; (case a => k_is); (case b => k_is); (case c => k_is); (case d => k_is); (case e => k_is); (case f => first | exact .inl rfl | exact .inr (by decide)))
    (case i_NoRow_TooMany => refine' Vs.kitO_mk ?a ?b ?c ?d ?e ?f; (case a => k_is); (case b => k_is); (case c => k_is); (case d => k_is); (case e => k_is); (case f => first | exact .inl rfl | exact .inr (by decide)))
    (case i_NoRow_ValueError => refine' Vs.kitB_mk (t := "ValueError") ?a ?b ?c ?d ?e; (case a => k_is); (case b => k_is); (case c => decide +kernel); (case d => decide +kernel); (case e => k_is))
    (case e_NoText => refine' Vs.excK_mk ?a ?b ?c ?d ?e ?f ?g ?h ?i; (case a => k_is); (case b => k_is); (case c => k_is); (case d => k_is); (case e => k_is); (case f => k_is); (case g => k_is); (case h => k_is); (case i => k_is))
    (case i_NoText_NoBits => refine' Vs.kitO_mk ?a ?b ?c ?d ?e ?f; (case a => k_is); (case b => k_is); (case c => k_is); (case d => k_is); (case e => k_is); (case f => first | exact .inl rfl | exact .inr (by decide)))
    (case i_NoText_NoHead => refine' Vs.kitO_mk ?a ?b ?c ?d ?e ?f; (case a => k_is); (case b => k_is); (case c => k_is); (case d => k_is); (case e => k_is); (case f => first | exact .inl rfl | exact .inr (by decide)))
    (case i_NoText_NoLadder => refine' Vs.kitO_mk ?a ?b ?c ?d ?e ?f; (case a => k_is); (case b => k_is); (case c => k_is); (case d => k_is); (case e => k_is); (case f => first | exact .inl rfl | exact .inr (by decide)))
    (case i_NoText_NoLevel => refine' Vs.kitO_mk ?a ?b ?c ?d ?e ?f; (case a => k_is); (case b => k_is); (case c => k_is); (case d => k_is); (case e => k_is); (case f => first | exact .inl rfl | exact .inr (by decide)))
    (case i_NoText_NoPicture => refine' Vs.kitO_mk ?a ?b ?c ?d ?e ?f; (case a => k_is); (case b => k_is); (case c => k_is); (case d => k_is); (case e => k_is); (case f => first | exact .inl rfl | exact .inr (by decide)))
    (case i_NoText_NoPiece => refine' Vs.kitO_mk ?a ?b ?c ?d ?e ?f; (case a => k_is); (case b => k_is); (case c => k_is); (case d => k_is); (case e => k_is); (case f => first | exact .inl rfl | exact .inr (by decide)))
    (case i_NoText_NoRow => refine' Vs.kitO_mk ?a ?b ?c ?d ?e ?f; (case a => k_is); (case b => k_is); (case c => k_is); (case d => k_is); (case e => k_is); (case f => first | exact .inl rfl | exact .inr (by decide)))
    (case i_NoText_NoText => refine' Vs.kitO_mk ?a ?b ?c ?d ?e ?f; (case a => k_is); (case b => k_is); (case c => k_is); (case d => k_is); (case e => k_is); (case f => first | exact .inl rfl | exact .inr (by decide)))
    (case i_NoText_TooMany => refine' Vs.kitO_mk ?a ?b ?c ?d ?e ?f; (case a => k_is); (case b => k_is); (case c => k_is); (case d => k_is); (case e => k_is); (case f => first | exact .inl rfl | exact .inr (by decide)))
    (case i_NoText_ValueError => refine' Vs.kitB_mk (t := "ValueError") ?a ?b ?c ?d ?e; (case a => k_is); (case b => k_is); (case c => decide +kernel); (case d => decide +kernel); (case e => k_is))
    (case ob_All => refine' Vs.objK_mk ?a ?b ?c ?d ?e ?f ?g ?h ?i; (case a => k_is); (case b => k_is); (case c => k_is); (case d => k_is); (case e => k_is); (case f => k_is); (case g => k_is); (case h => k_is); (case i => k_is))
    (case ob_At => refine' Vs.objK_mk ?a ?b ?c ?d ?e ?f ?g ?h ?i; (case a => k_is); (case b => k_is); (case c => k_is); (case d => k_is); (case e => k_is); (case f => k_is); (case g => k_is); (case h => k_is); (case i => k_is))
    (case ob_Bits => refine' Vs.objK_mk ?a ?b ?c ?d ?e ?f ?g ?h ?i; (case a => k_is); (case b => k_is); (case c => k_is); (case d => k_is); (case e => k_is); (case f => k_is); (case g => k_is); (case h => k_is); (case i => k_is))
    (case ob_Broad => refine' Vs.objK_mk ?a ?b ?c ?d ?e ?f ?g ?h ?i; (case a => k_is); (case b => k_is); (case c => k_is); (case d => k_is); (case e => k_is); (case f => k_is); (case g => k_is); (case h => k_is); (case i => k_is))
    (case ob_Level => refine' Vs.objK_mk ?a ?b ?c ?d ?e ?f ?g ?h ?i; (case a => k_is); (case b => k_is); (case c => k_is); (case d => k_is); (case e => k_is); (case f => k_is); (case g => k_is); (case h => k_is); (case i => k_is))
    (case ob_Piece => refine' Vs.objK_mk ?a ?b ?c ?d ?e ?f ?g ?h ?i; (case a => k_is); (case b => k_is); (case c => k_is); (case d => k_is); (case e => k_is); (case f => k_is); (case g => k_is); (case h => k_is); (case i => k_is))
    (case ob_Question => refine' Vs.objK_mk ?a ?b ?c ?d ?e ?f ?g ?h ?i; (case a => k_is); (case b => k_is); (case c => k_is); (case d => k_is); (case e => k_is); (case f => k_is); (case g => k_is); (case h => k_is); (case i => k_is))
    (case ob_Size => refine' Vs.objK_mk ?a ?b ?c ?d ?e ?f ?g ?h ?i; (case a => k_is); (case b => k_is); (case c => k_is); (case d => k_is); (case e => k_is); (case f => k_is); (case g => k_is); (case h => k_is); (case i => k_is))
    (case io_All_All => refine' Vs.kitO_mk ?a ?b ?c ?d ?e ?f; (case a => k_is); (case b => k_is); (case c => k_is); (case d => k_is); (case e => k_is); (case f => first | exact .inl rfl | exact .inr (by decide)))
    (case io_All_At => refine' Vs.kitO_mk ?a ?b ?c ?d ?e ?f; (case a => k_is); (case b => k_is); (case c => k_is); (case d => k_is); (case e => k_is); (case f => first | exact .inl rfl | exact .inr (by decide)))
    (case io_All_Bits => refine' Vs.kitO_mk ?a ?b ?c ?d ?e ?f; (case a => k_is); (case b => k_is); (case c => k_is); (case d => k_is); (case e => k_is); (case f => first | exact .inl rfl | exact .inr (by decide)))
    (case io_All_Broad => refine' Vs.kitO_mk ?a ?b ?c ?d ?e ?f; (case a => k_is); (case b => k_is); (case c => k_is); (case d => k_is); (case e => k_is); (case f => first | exact .inl rfl | exact .inr (by decide)))
    (case io_All_Level => refine' Vs.kitO_mk ?a ?b ?c ?d ?e ?f; (case a => k_is); (case b => k_is); (case c => k_is); (case d => k_is); (case e => k_is); (case f => first | exact .inl rfl | exact .inr (by decide)))
    (case io_All_Piece => refine' Vs.kitO_mk ?a ?b ?c ?d ?e ?f; (case a => k_is); (case b => k_is); (case c => k_is); (case d => k_is); (case e => k_is); (case f => first | exact .inl rfl | exact .inr (by decide)))
    (case io_All_Question => refine' Vs.kitO_mk ?a ?b ?c ?d ?e ?f; (case a => k_is); (case b => k_is); (case c => k_is); (case d => k_is); (case e => k_is); (case f => first | exact .inl rfl | exact .inr (by decide)))
    (case io_All_Size => refine' Vs.kitO_mk ?a ?b ?c ?d ?e ?f; (case a => k_is); (case b => k_is); (case c => k_is); (case d => k_is); (case e => k_is); (case f => first | exact .inl rfl | exact .inr (by decide)))
    (case io_At_All => refine' Vs.kitO_mk ?a ?b ?c ?d ?e ?f; (case a => k_is); (case b => k_is); (case c => k_is); (case d => k_is); (case e => k_is); (case f => first | exact .inl rfl | exact .inr (by decide)))
    (case io_At_At => refine' Vs.kitO_mk ?a ?b ?c ?d ?e ?f; (case a => k_is); (case b => k_is); (case c => k_is); (case d => k_is); (case e => k_is); (case f => first | exact .inl rfl | exact .inr (by decide)))
    (case io_At_Bits => refine' Vs.kitO_mk ?a ?b ?c ?d ?e ?f; (case a => k_is); (case b => k_is); (case c => k_is); (case d => k_is); (case e => k_is); (case f => first | exact .inl rfl | exact .inr (by decide)))
    (case io_At_Broad => refine' Vs.kitO_mk ?a ?b ?c ?d ?e ?f; (case a => k_is); (case b => k_is); (case c => k_is); (case d => k_is); (case e => k_is); (case f => first | exact .inl rfl | exact .inr (by decide)))
    (case io_At_Level => refine' Vs.kitO_mk ?a ?b ?c ?d ?e ?f; (case a => k_is); (case b => k_is); (case c => k_is); (case d => k_is); (case e => k_is); (case f => first | exact .inl rfl | exact .inr (by decide)))
    (case io_At_Piece => refine' Vs.kitO_mk ?a ?b ?c ?d ?e ?f; (case a => k_is); (case b => k_is); (case c => k_is); (case d => k_is); (case e => k_is); (case f => first | exact .inl rfl | exact .inr (by decide)))
    (case io_At_Question => refine' Vs.kitO_mk ?a ?b ?c ?d ?e ?f; (case a => k_is); (case b => k_is); (case c => k_is); (case d => k_is); (case e => k_is); (case f => first | exact .inl rfl | exact .inr (by decide)))
    (case io_At_Size => refine' Vs.kitO_mk ?a ?b ?c ?d ?e ?f; (case a => k_is); (case b => k_is); (case c => k_is); (case d => k_is); (case e => k_is); (case f => first | exact .inl rfl | exact .inr (by decide)))
    (case io_Bits_All => refine' Vs.kitO_mk ?a ?b ?c ?d ?e ?f; (case a => k_is); (case b => k_is); (case c => k_is); (case d => k_is); (case e => k_is); (case f => first | exact .inl rfl | exact .inr (by decide)))
    (case io_Bits_At => refine' Vs.kitO_mk ?a ?b ?c ?d ?e ?f; (case a => k_is); (case b => k_is); (case c => k_is); (case d => k_is); (case e => k_is); (case f => first | exact .inl rfl | exact .inr (by decide)))
    (case io_Bits_Bits => refine' Vs.kitO_mk ?a ?b ?c ?d ?e ?f; (case a => k_is); (case b => k_is); (case c => k_is); (case d => k_is); (case e => k_is); (case f => first | exact .inl rfl | exact .inr (by decide)))
    (case io_Bits_Broad => refine' Vs.kitO_mk ?a ?b ?c ?d ?e ?f; (case a => k_is); (case b => k_is); (case c => k_is); (case d => k_is); (case e => k_is); (case f => first | exact .inl rfl | exact .inr (by decide)))
    (case io_Bits_Level => refine' Vs.kitO_mk ?a ?b ?c ?d ?e ?f; (case a => k_is); (case b => k_is); (case c => k_is); (case d => k_is); (case e => k_is); (case f => first | exact .inl rfl | exact .inr (by decide)))
    (case io_Bits_Piece => refine' Vs.kitO_mk ?a ?b ?c ?d ?e ?f; (case a => k_is); (case b => k_is); (case c => k_is); (case d => k_is); (case e => k_is); (case f => first | exact .inl rfl | exact .inr (by decide)))
    (case io_Bits_Question => refine' Vs.kitO_mk ?a ?b ?c ?d ?e ?f; (case a => k_is); (case b => k_is); (case c => k_is); (case d => k_is); (case e => k_is); (case f => first | exact .inl rfl | exact .inr (by decide)))
    (case io_Bits_Size => refine' Vs.kitO_mk ?a ?b ?c ?d ?e ?f; (case a => k_is); (case b => k_is); (case c => k_is); (case d => k_is); (case e => k_is); (case f => first | exact .inl rfl | exact .inr (by decide)))
    (case io_Broad_All => refine' Vs.kitO_mk ?a ?b ?c ?d ?e ?f; (case a => k_is); (case b => k_is); (case c => k_is); (case d => k_is); (case e => k_is); (case f => first | exact .inl rfl | exact .inr (by decide)))
    (case io_Broad_At => refine' Vs.kitO_mk ?a ?b ?c ?d ?e ?f; (case a => k_is); (case b => k_is); (case c => k_is); (case d => k_is); (case e => k_is); (case f => first | exact .inl rfl | exact .inr (by decide)))
    (case io_Broad_Bits => refine' Vs.kitO_mk ?a ?b ?c ?d ?e ?f; (case a => k_is); (case b => k_is); (case c => k_is); (case d => k_is); (case e => k_is); (case f => first | exact .inl rfl | exact .inr (by decide)))
    (case io_Broad_Broad => refine' Vs.kitO_mk ?a ?b ?c ?d ?e ?f; (case a => k_is); (case b => k_is); (case c => k_is); (case d => k_is); (case e => k_is); (case f => first | exact .inl rfl | exact .inr (by decide)))
    (case io_Broad_Level => refine' Vs.kitO_mk ?a ?b ?c ?d ?e ?f; (case a => k_is); (case b => k_is); (case c => k_is); (case d => k_is); (case e => k_is); (case f => first | exact .inl rfl | exact .inr (by decide)))
    (case io_Broad_Piece => refine' Vs.kitO_mk ?a ?b ?c ?d ?e ?f; (case a => k_is); (case b => k_is); (case c => k_is); (case d => k_is); (case e => k_is); (case f => first | exact .inl rfl | exact .inr (by decide)))
    (case io_Broad_Question => refine' Vs.kitO_mk ?a ?b ?c ?d ?e ?f; (case a => k_is); (case b => k_is); (case c => k_is); (case d => k_is); (case e => k_is); (case f => first | exact .inl rfl | exact .inr (by decide)))
    (case io_Broad_Size => refine' Vs.kitO_mk ?a ?b ?c ?d ?e ?f; (case a => k_is); (case b => k_is); (case c => k_is); (case d => k_is); (case e => k_is); (case f => first | exact .inl rfl | exact .inr (by decide)))
    (case io_Level_All => refine' Vs.kitO_mk ?a ?b ?c ?d ?e ?f; (case a => k_is); (case b => k_is); (case c => k_is); (case d => k_is); (case e => k_is); (case f => first | exact .inl rfl | exact .inr (by decide)))
    (case io_Level_At => refine' Vs.kitO_mk ?a ?b ?c ?d ?e ?f; (case a => k_is); (case b => k_is); (case c => k_is); (case d => k_is); (case e => k_is); (case f => first | exact .inl rfl | exact .inr (by decide)))
    (case io_Level_Bits => refine' Vs.kitO_mk ?a ?b ?c ?d ?e ?f; (case a => k_is); (case b => k_is); (case c => k_is); (case d => k_is); (case e => k_is); (case f => first | exact .inl rfl | exact .inr (by decide)))
    (case io_Level_Broad => refine' Vs.kitO_mk ?a ?b ?c ?d ?e ?f; (case a => k_is); (case b => k_is); (case c => k_is); (case d => k_is); (case e => k_is); (case f => first | exact .inl rfl | exact .inr (by decide)))
    (case io_Level_Level => refine' Vs.kitO_mk ?a ?b ?c ?d ?e ?f; (case a => k_is); (case b => k_is); (case c => k_is); (case d => k_is); (case e => k_is); (case f => first | exact .inl rfl | exact .inr (by decide)))
    (case io_Level_Piece => refine' Vs.kitO_mk ?a ?b ?c ?d ?e ?f; (case a => k_is); (case b => k_is); (case c => k_is); (case d => k_is); (case e => k_is); (case f => first | exact .inl rfl | exact .inr (by decide)))
    (case io_Level_Question => refine' Vs.kitO_mk ?a ?b ?c ?d ?e ?f; (case a => k_is); (case b => k_is); (case c => k_is); (case d => k_is); (case e => k_is); (case f => first | exact .inl rfl | exact .inr (by decide)))
    (case io_Level_Size => refine' Vs.kitO_mk ?a ?b ?c ?d ?e ?f; (case a => k_is); (case b => k_is); (case c => k_is); (case d => k_is); (case e => k_is); (case f => first | exact .inl rfl | exact .inr (by decide)))
    (case io_Piece_All => refine' Vs.kitO_mk ?a ?b ?c ?d ?e ?f; (case a => k_is); (case b => k_is); (case c => k_is); (case d => k_is); (case e => k_is); (case f => first | exact .inl rfl | exact .inr (by decide)))
    (case io_Piece_At => refine' Vs.kitO_mk ?a ?b ?c ?d ?e ?f; (case a => k_is); (case b => k_is); (case c => k_is); (case d => k_is); (case e => k_is); (case f => first | exact .inl rfl | exact .inr (by decide)))
    (case io_Piece_Bits => refine' Vs.kitO_mk ?a ?b ?c ?d ?e ?f; (case a => k_is); (case b => k_is); (case c => k_is); (case d => k_is); (case e => k_is); (case f => first | exact .inl rfl | exact .inr (by decide)))
    (case io_Piece_Broad => refine' Vs.kitO_mk ?a ?b ?c ?d ?e ?f; (case a => k_is); (case b => k_is); (case c => k_is); (case d => k_is); (case e => k_is); (case f => first | exact .inl rfl | exact .inr (by decide)))
    (case io_Piece_Level => refine' Vs.kitO_mk ?a ?b ?c ?d ?e ?f; (case a => k_is); (case b => k_is); (case c => k_is); (case d => k_is); (case e => k_is); (case f => first | exact .inl rfl | exact .inr (by decide)))
    (case io_Piece_Piece => refine' Vs.kitO_mk ?a ?b ?c ?d ?e ?f; (case a => k_is); (case b => k_is); (case c => k_is); (case d => k_is); (case e => k_is); (case f => first | exact .inl rfl | exact .inr (by decide)))
    (case io_Piece_Question => refine' Vs.kitO_mk ?a ?b ?c ?d ?e ?f; (case a => k_is); (case b => k_is); (case c => k_is); (case d => k_is); (case e => k_is); (case f => first | exact .inl rfl | exact .inr (by decide)))
    (case io_Piece_Size => refine' Vs.kitO_mk ?a ?b ?c ?d ?e ?f; (case a => k_is); (case b => k_is); (case c => k_is); (case d => k_is); (case e => k_is); (case f => first | exact .inl rfl | exact .inr (by decide)))
    (case io_Size_All => refine' Vs.kitO_mk ?a ?b ?c ?d ?e ?f; (case a => k_is); (case b => k_is); (case c => k_is); (case d => k_is); (case e => k_is); (case f => first | exact .inl rfl | exact .inr (by decide)))
    (case io_Size_At => refine' Vs.kitO_mk ?a ?b ?c ?d ?e ?f; (case a => k_is); (case b => k_is); (case c => k_is); (case d => k_is); (case e => k_is); (case f => first | exact .inl rfl | exact .inr (by decide)))
    (case io_Size_Bits => refine' Vs.kitO_mk ?a ?b ?c ?d ?e ?f; (case a => k_is); (case b => k_is); (case c => k_is); (case d => k_is); (case e => k_is); (case f => first | exact .inl rfl | exact .inr (by decide)))
    (case io_Size_Broad => refine' Vs.kitO_mk ?a ?b ?c ?d ?e ?f; (case a => k_is); (case b => k_is); (case c => k_is); (case d => k_is); (case e => k_is); (case f => first | exact .inl rfl | exact .inr (by decide)))
    (case io_Size_Level => refine' Vs.kitO_mk ?a ?b ?c ?d ?e ?f; (case a => k_is); (case b => k_is); (case c => k_is); (case d => k_is); (case e => k_is); (case f => first | exact .inl rfl | exact .inr (by decide)))
    (case io_Size_Piece => refine' Vs.kitO_mk ?a ?b ?c ?d ?e ?f; (case a => k_is); (case b => k_is); (case c => k_is); (case d => k_is); (case e => k_is); (case f => first | exact .inl rfl | exact .inr (by decide)))
    (case io_Size_Question => refine' Vs.kitO_mk ?a ?b ?c ?d ?e ?f; (case a => k_is); (case b => k_is); (case c => k_is); (case d => k_is); (case e => k_is); (case f => first | exact .inl rfl | exact .inr (by decide)))
    (case io_Size_Size => refine' Vs.kitO_mk ?a ?b ?c ?d ?e ?f; (case a => k_is); (case b => k_is); (case c => k_is); (case d => k_is); (case e => k_is); (case f => first | exact .inl rfl | exact .inr (by decide)))
    (case mo_All => refine' Vs.mkO_mk ?a ?b ?c ?d; (case a => k_is); (case b => k_is); (case c => k_is); (case d => k_is))
    (case mo_Bits => refine' Vs.mkO_mk ?a ?b ?c ?d; (case a => k_is); (case b => k_is); (case c => k_is); (case d => k_is))
    (case mo_Broad => refine' Vs.mkO_mk ?a ?b ?c ?d; (case a => k_is); (case b => k_is); (case c => k_is); (case d => k_is))
    (case mo_Size => refine' Vs.mkO_mk ?a ?b ?c ?d; (case a => k_is); (case b => k_is); (case c => k_is); (case d => k_is))
