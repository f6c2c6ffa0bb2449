import PyProof.Rows.All
import Wide.All
import OpenK.AllK
import Wide.FinOn
import HandS.ForMost
import HandS.ForExc
import HandS.Nested
import HandS.TupAny
import HandS.WideBits
import HandS.Wide
import HandS.IsInst
import HandS.CallSlots
import HandS.Rev
import HandS.Zip
import HandS.EndBits
import PyProof.Rows.ChunkLeaf
import PyProof.AutoSeq1
import HandS.Text
import HandS.StrMore
import PyProof.StrOps2
import HandS.More
import HandS.SortInts
import HandS.Defaults
import HandS.RevRange
import HandS.ExcIs
import HandS.TryElse
import HandS.Call
import KE.GoesEnum
import PyProof.Rows.StrPadFill
import HandS.TupLe
import HandS.Conv
import HandS.Iter
import HandS.TupMul
import KE.GoesComp
import KE.KDictCopyH
import KE.KDictOf
import HandS.HotCalls
import HandS.SuiteRaise
import HandS.TryMany
import HandS.NoneIn
import HandS.EndTab
import PySem.Challenge.RW_liftwave_k39_least
set_option Elab.async false
set_option linter.all false
set_option maxRecDepth 100000
set_option maxHeartbeats 4000000
/-! Vs: values in place of heaps, over the hand layer. -/
namespace Vs
open PySem PySem.Spec PyProof.Rows L2

/-- a function that the program made: what its object is, its code object, its name -/
structure CF where
  p : Heap → Prop
  c : Addr
  q : Str
/-- data -/
inductive D where
  | non | bl (b : Bool) | int (i : Int) | str (x : Str) | lst (xs : List D) | fz (xs : List D) | tup (xs : List D) | dic (t : Bool) (ks vs : List D) | fn (x : Str) | exc (c : Str) (a : Addr) | cl (f : Addr) (F : CF) | obj (c : Str) (ks : List Str) (vs : List D)

inductive R (α : Type) where
  | st | ok (a : α) | ex (c : Str)
def R.bind {α β : Type} : R α → (α → R β) → R β
  | .st, _ => .st
  | .ok a, f => f a
  | .ex c, _ => .ex c
@[simp] theorem R.bind_ok {α β : Type} (a : α) (f : α → R β) : (R.ok a).bind f = f a := rfl
@[simp] theorem R.bind_st {α β : Type} (f : α → R β) : (R.st).bind f = .st := rfl
@[simp] theorem R.bind_ex {α β : Type} (c : Str) (f : α → R β) : (R.ex c).bind f = .ex c := rfl

abbrev Env := List (Option D)

mutual
def immD : D → Bool
  | .non | .bl _ | .int _ | .str _ | .fn _ | .exc _ _ | .cl _ _ => true
  | .lst _ | .dic _ _ _ | .obj _ _ _ => false
  | .fz xs => immDs xs
  | .tup xs => immDs xs
def immDs : List D → Bool
  | [] => true
  | x :: xs => immD x && immDs xs
end

/-- a dict's key as data -/
def keyD : Key → D
  | .inl i => .int i
  | .inr x => .str x

/-- a tuple of the program's own part -/
def KtT (K : PySem.W.Frag) (a : Addr) (xs : List V) : Prop := ∃ (o : Obj) (its : Array Value) (n : Nat), K.lookup a = some o ∧ o.cls = .type "tuple" ∧ o.data = .seq its n ∧ its.size ≤ sizeLine ∧ Vals xs its.toList ∧ (xs.length ≠ 2 ∨ ∃ b, V.ref b ∈ xs)
/-- a tuple that was made, or one of the program's own part -/
def TpT (K : PySem.W.Frag) (H : Hp) (a : Addr) (xs : List V) : Prop := H a = some (.tup xs) ∨ KtT K a xs
theorem TpT.sq {K : PySem.W.Frag} {H : Hp} {a : Addr} {xs : List V} (h : TpT K H a xs) : SqT K H a xs := h.elim SqT.of fun ⟨o, its, n, h1, h2, h3, h4, h5, _⟩ => .inr ⟨o, its, n, h1, h2, h3, h4, h5⟩
/-- x is the module's own name of what stands at a -/
def NameK (K : PySem.W.Frag) (x : Str) (a : Addr) : Prop := PySem.W.nsIn K mainGlobals x = some (some (.ref a))
/-- what never changes -/
def Stt : HO → Prop
  | .tup _ => True
  | .frz _ _ => True
  | .ext _ => True
  | .tbl _ => True
  | _ => False
/-! ### heaps: all stays but the tables of code objects, which grow -/
/-- the names of the code objects that defs within defs make, by line and column (the law's own; filled in where the claim is put together) -/
def nmT : List (Nat × Nat × Str) := [(33, 44, "_law_right.<locals>.<lambda>")]
/-- the tables of their makers' code objects -/
def tabPs : List Addr := [58]
def nmL (l c : Nat) : Str := match nmT.find? fun p => p.1 == l && p.2.1 == c with
  | some p => p.2.2
  | none => Str.empty
def NTb : HO → Prop
  | .tbl _ => False
  | _ => True
theorem nst {o : HO} (h : ¬ Stt o) : NTb o := by
  cases o <;> first | exact True.intro | exact absurd True.intro h
theorem among_append {pos : Pos} {cv : Value} {r : List Value} (l : List Value) (h : TriplesOk l) (hc : codeAmong pos (l ++ r) = some cv) : codeAmong pos l = some cv ∨ codeAmong pos r = some cv := by
  fun_induction TriplesOk l with
  | case1 => exact .inr hc
  | case2 a t b u x rest ih =>
    simp only [List.cons_append, codeAmong] at hc ⊢
    split at hc
    · rename_i q
      rw [if_pos q]
      exact .inl hc
    · rename_i q
      rw [if_neg q]
      exact ih h hc
  | case3 l h1 h2 => exact h.elim
theorem triples_append {r : List Value} (l : List Value) (h : TriplesOk l) (hr : TriplesOk r) : TriplesOk (l ++ r) := by
  fun_induction TriplesOk l with
  | case1 => exact hr
  | case2 a t b u x rest ih =>
    simp only [List.cons_append, TriplesOk]
    exact ih h
  | case3 l h1 h2 => exact h.elim
/-- what a table has got behind -/
def MoreOk (H : Hp) (more : Array Value) : Prop := TriplesOk more.toList ∧ ∀ (pos : Pos) (cv : Value), codeAmong pos more.toList = some cv → ∃ c, cv = .ref c ∧ H c = some (LamX.CodeO c (nmL pos.line pos.col))
theorem MoreOk.nil (H : Hp) : MoreOk H #[] := ⟨True.intro, fun pos cv h => by
  have z : codeAmong pos [] = some cv := h
  simp [codeAmong] at z⟩
structure Same (H H' : Hp) : Prop where
  at_ : ∀ b o, H b = some o → NTb o → H' b = some o
  tab : ∀ b ps, H b = some (.tbl ps) → ∃ more, H' b = some (.tbl (ps ++ more)) ∧ MoreOk H' more
theorem Same.mv {H H' : Hp} (e : Same H H') {b : Addr} {o : HO} (h : H b = some o) (n : NTb o := by exact True.intro) : H' b = some o := e.at_ b o h n
theorem codeO_ntb {c : Addr} {q : Str} : NTb (LamX.CodeO c q) := True.intro
theorem MoreOk.up {H H' : Hp} {more : Array Value} (m : MoreOk H more) (k : ∀ b o, H b = some o → NTb o → H' b = some o) : MoreOk H' more := ⟨m.1, fun pos cv h => by
  obtain ⟨c, e, h1⟩ := m.2 pos cv h
  exact ⟨c, e, k _ _ h1 codeO_ntb⟩⟩
theorem Same.of {H H' : Hp} (e : ∀ b o, H b = some o → H' b = some o) : Same H H' := ⟨fun b o h _ => e b o h, fun b ps h => ⟨#[], by rw [e _ _ h]; simp, MoreOk.nil _⟩⟩
theorem Same.refl (H : Hp) : Same H H := Same.of fun _ _ h => h
theorem Same.trans {H H1 H2 : Hp} (a : Same H H1) (b : Same H1 H2) : Same H H2 := ⟨fun c o h n => b.at_ c o (a.at_ c o h n) n, fun c ps h => by
  obtain ⟨m1, e1, k1⟩ := a.tab c ps h
  obtain ⟨m2, e2, k2⟩ := b.tab c _ e1
  refine ⟨m1 ++ m2, by rw [e2, Array.append_assoc], by rw [Array.toList_append]; exact triples_append _ k1.1 k2.1, fun pos cv hc => ?_⟩
  rw [Array.toList_append] at hc
  rcases among_append _ k1.1 hc with q | q
  · exact (k1.up b.at_).2 pos cv q
  · exact k2.2 pos cv q⟩
theorem Same.free {H H' : Hp} (e : Same H H') {l : Addr} (h : H' l = Option.none) : H l = Option.none := by
  cases q : H l with
  | none => rfl
  | some o =>
    by_cases n : NTb o
    · rw [e.at_ l o q n] at h
      cases h
    · cases o with
      | tbl ps =>
        obtain ⟨m, e1, _⟩ := e.tab l ps q
        rw [e1] at h
        cases h
      | _ => exact absurd True.intro n
theorem Same.seq {K : PySem.W.Frag} {H H' : Hp} {a : Addr} {xs : List V} (e : Same H H') (h : SqL K H a xs) : SqL K H' a xs := by
  rcases h with (h | ⟨o, h⟩) | h
  · exact .inl (.inl (e.mv h))
  · exact .inl (.inr ⟨o, e.mv h⟩)
  · exact .inr h
/-- a table as the laws' defs know it -/
abbrev TabL (H : Hp) (P : Addr) : Prop := NdefX.TabN H P nmL
theorem TabL.up {H H' : Hp} {P : Addr} (t : TabL H P) (s : Same H H') : TabL H' P := by
  obtain ⟨ps, h1, h2, h3⟩ := t
  obtain ⟨m, e1, k⟩ := s.tab _ _ h1
  refine ⟨_, e1, by rw [Array.toList_append]; exact triples_append _ h2 k.1, fun pos cv hc => ?_⟩
  rw [Array.toList_append] at hc
  rcases among_append _ h2 hc with q | q
  · obtain ⟨c, e, h⟩ := h3 pos cv q
    exact ⟨c, e, s.at_ _ _ h codeO_ntb⟩
  · exact k.2 pos cv q
def TabsL (H : Hp) : Prop := ∀ P ∈ tabPs, TabL H P
theorem TabsL.up {H H' : Hp} (t : TabsL H) (s : Same H H') : TabsL H' := fun P hp => (t P hp).up s
mutual
/-- v is to be read as d -/
inductive Rd (K : PySem.W.Frag) (H : Hp) : V → D → Prop
  | non : Rd K H .non .non
  | bl (b : Bool) : Rd K H (.bl b) (.bl b)
  | int (i : Int) : Rd K H (.int i) (.int i)
  | str (x : Str) : Rd K H (.str x) (.str x)
  | fn {a : Addr} {x : Str} : NameK K x a → Rd K H (.ref a) (.fn x)
  | exc (c : Str) (a : Addr) : Rd K H (.ref a) (.exc c a)
  | cl {f : Addr} {F : CF} : H f = some (.ext F.p) → H F.c = some (LamX.CodeO F.c F.q) → Rd K H (.ref f) (.cl f F)
  | lst {a : Addr} {vs : List V} {ds : List D} : SqL K H a vs → Rds K H vs ds → Rd K H (.ref a) (.lst ds)
  | fz {a : Addr} {o : Obj} {vs : List V} {ds : List D} : H a = some (.frz o (.lst vs)) → Rds K H vs ds → Rd K H (.ref a) (.fz ds)
  | tup {a : Addr} {vs : List V} {ds : List D} : TpT K H a vs → Rds K H vs ds → Rd K H (.ref a) (.tup ds)
  | dk {a : Addr} {kvs : List (Key × V)} {ks : List D} {ds : List D} : H a = some (.dK kvs) → ks = kvs.map (fun p => keyD p.1) → Rds K H (kvs.map (·.2)) ds → Rd K H (.ref a) (.dic false ks ds)
  | dt {a : Addr} {kvs : List (List Key × V)} {ks : List D} {ds : List D} : H a = some (.dT kvs) → ks = kvs.map (fun p => D.tup (p.1.map keyD)) → Rds K H (kvs.map (·.2)) ds → Rd K H (.ref a) (.dic true ks ds)
  | obj {a C dx : Addr} {fs : List (Str × V)} {c : Str} {ks : List Str} {ds : List D} : H a = some (.ins C dx fs) → H dx = some (.own a) → NameK K c C → ks = fs.map (·.1) → Rds K H (fs.map (·.2)) ds → Rd K H (.ref a) (.obj c ks ds)
inductive Rds (K : PySem.W.Frag) (H : Hp) : List V → List D → Prop
  | nil : Rds K H [] []
  | cons {v : V} {vs : List V} {d : D} {ds : List D} : Rd K H v d → Rds K H vs ds → Rds K H (v :: vs) (d :: ds)
end

mutual
/-- v is d, and the lists of d stand at A, each once -/
inductive Fu (K : PySem.W.Frag) (H : Hp) : V → D → List Addr → Prop
  | non : Fu K H .non .non []
  | bl (b : Bool) : Fu K H (.bl b) (.bl b) []
  | int (i : Int) : Fu K H (.int i) (.int i) []
  | str (x : Str) : Fu K H (.str x) (.str x) []
  | fn {a : Addr} {x : Str} : NameK K x a → Fu K H (.ref a) (.fn x) []
  | exc (c : Str) (a : Addr) : Fu K H (.ref a) (.exc c a) []
  | cl {f : Addr} {F : CF} : H f = some (.ext F.p) → H F.c = some (LamX.CodeO F.c F.q) → Fu K H (.ref f) (.cl f F) []
  | lst {a : Addr} {vs : List V} {ds : List D} {A : List Addr} : H a = some (.lst vs) → Fus K H vs ds A → a ∉ A → Fu K H (.ref a) (.lst ds) (a :: A)
  | fz {a : Addr} {o : Obj} {vs : List V} {ds : List D} : H a = some (.frz o (.lst vs)) → Fus K H vs ds [] → Fu K H (.ref a) (.fz ds) []
  | tup {a : Addr} {vs : List V} {ds : List D} {A : List Addr} : TpT K H a vs → Fus K H vs ds A → Fu K H (.ref a) (.tup ds) A
  | dk {a : Addr} {kvs : List (Key × V)} {ks : List D} {ds : List D} {A : List Addr} : H a = some (.dK kvs) → ks = kvs.map (fun p => keyD p.1) → Fus K H (kvs.map (·.2)) ds A → a ∉ A → Fu K H (.ref a) (.dic false ks ds) (a :: A)
  | dt {a : Addr} {kvs : List (List Key × V)} {ks : List D} {ds : List D} {A : List Addr} : H a = some (.dT kvs) → ks = kvs.map (fun p => D.tup (p.1.map keyD)) → Fus K H (kvs.map (·.2)) ds A → a ∉ A → Fu K H (.ref a) (.dic true ks ds) (a :: A)
  | obj {a C dx : Addr} {fs : List (Str × V)} {c : Str} {ks : List Str} {ds : List D} {A : List Addr} : H a = some (.ins C dx fs) → H dx = some (.own a) → NameK K c C → ks = fs.map (·.1) → Fus K H (fs.map (·.2)) ds A → a ∉ A → dx ∉ A → a ≠ dx → Fu K H (.ref a) (.obj c ks ds) (a :: dx :: A)
inductive Fus (K : PySem.W.Frag) (H : Hp) : List V → List D → List Addr → Prop
  | nil : Fus K H [] [] []
  | cons {v : V} {vs : List V} {d : D} {ds : List D} {A B : List Addr} : Fu K H v d A → Fus K H vs ds B → (∀ x ∈ A, x ∉ B) → Fus K H (v :: vs) (d :: ds) (A ++ B)
end

section
variable {K : PySem.W.Frag} {H H' S : Hp}

theorem seqT (e : Same H H') {a : Addr} {xs : List V} (h : TpT K H a xs) : TpT K H' a xs := h.imp (fun z => e.mv z) id

mutual
theorem Rd.mono (e : Same H H') : ∀ {v : V} {d : D}, Rd K H v d → Rd K H' v d
  | _, _, .non => .non
  | _, _, .bl b => .bl b
  | _, _, .int i => .int i
  | _, _, .str x => .str x
  | _, _, .fn n => .fn n
  | _, _, .exc c a => .exc c a
  | _, _, .cl h1 h2 => .cl (e.mv h1) (e.mv h2)
  | _, _, .lst h r => .lst (e.seq h) (Rds.mono e r)
  | _, _, .fz h r => .fz (e.mv h) (Rds.mono e r)
  | _, _, .tup h r => .tup (seqT e h) (Rds.mono e r)
  | _, _, .dk h q r => .dk (e.mv h) q (Rds.mono e r)
  | _, _, .dt h q r => .dt (e.mv h) q (Rds.mono e r)
  | _, _, .obj h h2 n q r => .obj (e.mv h) (e.mv h2) n q (Rds.mono e r)
theorem Rds.mono (e : Same H H') : ∀ {vs : List V} {ds : List D}, Rds K H vs ds → Rds K H' vs ds
  | _, _, .nil => .nil
  | _, _, .cons h r => .cons (Rd.mono e h) (Rds.mono e r)
end

mutual
theorem Fu.rd : ∀ {v : V} {d : D} {A : List Addr}, Fu K H v d A → Rd K H v d
  | _, _, _, .non => .non
  | _, _, _, .bl b => .bl b
  | _, _, _, .int i => .int i
  | _, _, _, .str x => .str x
  | _, _, _, .fn n => .fn n
  | _, _, _, .exc c a => .exc c a
  | _, _, _, .cl h1 h2 => .cl h1 h2
  | _, _, _, .lst h r _ => .lst (SqL.of h) (Fus.rd r)
  | _, _, _, .fz h r => .fz h (Fus.rd r)
  | _, _, _, .tup h r => .tup h (Fus.rd r)
  | _, _, _, .dk h q r _ => .dk h q (Fus.rd r)
  | _, _, _, .dt h q r _ => .dt h q (Fus.rd r)
  | _, _, _, .obj h h2 n q r _ _ _ => .obj h h2 n q (Fus.rd r)
theorem Fus.rd : ∀ {vs : List V} {ds : List D} {A : List Addr}, Fus K H vs ds A → Rds K H vs ds
  | _, _, _, .nil => .nil
  | _, _, _, .cons h r _ => .cons (Fu.rd h) (Fus.rd r)
end

mutual
/-- what is owned stays where its lists stay, and the tuples -/
theorem Fu.at : ∀ {v : V} {d : D} {A : List Addr}, Fu K H v d A → (∀ a ∈ A, H' a = H a) → (∀ b o, Stt o → NTb o → H b = some o → H' b = some o) → Fu K H' v d A
  | _, _, _, .non, _, _ => .non
  | _, _, _, .bl b, _, _ => .bl b
  | _, _, _, .int i, _, _ => .int i
  | _, _, _, .str x, _, _ => .str x
  | _, _, _, .fn n, _, _ => .fn n
  | _, _, _, .exc c a, _, _ => .exc c a
  | _, _, _, .cl h1 h2, _, t => .cl (t _ (.ext _) True.intro True.intro h1) (t _ (LamX.CodeO _ _) True.intro True.intro h2)
  | _, _, _, .lst h r n, k, t => .lst ((k _ List.mem_cons_self).trans h) (Fus.at r (fun a ha => k a (List.mem_cons_of_mem _ ha)) t) n
  | _, _, _, .fz h r, k, t => .fz (t _ (.frz _ _) True.intro True.intro h) (Fus.at r (fun a ha => nomatch ha) t)
  | _, _, _, .tup h r, k, t => .tup (h.imp (fun z => t _ (.tup _) True.intro True.intro z) id) (Fus.at r k t)
  | _, _, _, .dk h q r n, k, t => .dk ((k _ List.mem_cons_self).trans h) q (Fus.at r (fun a ha => k a (List.mem_cons_of_mem _ ha)) t) n
  | _, _, _, .dt h q r n, k, t => .dt ((k _ List.mem_cons_self).trans h) q (Fus.at r (fun a ha => k a (List.mem_cons_of_mem _ ha)) t) n
  | _, _, _, .obj h h2 nk q r n n2 n3, k, t => .obj ((k _ List.mem_cons_self).trans h) ((k _ (List.mem_cons_of_mem _ List.mem_cons_self)).trans h2) nk q (Fus.at r (fun a ha => k a (List.mem_cons_of_mem _ (List.mem_cons_of_mem _ ha))) t) n n2 n3
theorem Fus.at : ∀ {vs : List V} {ds : List D} {A : List Addr}, Fus K H vs ds A → (∀ a ∈ A, H' a = H a) → (∀ b o, Stt o → NTb o → H b = some o → H' b = some o) → Fus K H' vs ds A
  | _, _, _, .nil, _, _ => .nil
  | _, _, _, .cons h r n, k, t => .cons (Fu.at h (fun a ha => k a (List.mem_append_left _ ha)) t) (Fus.at r (fun a ha => k a (List.mem_append_right _ ha)) t) n
end

mutual
/-- the owned lists are tracked -/
theorem Fu.there : ∀ {v : V} {d : D} {A : List Addr}, Fu K H v d A → ∀ a ∈ A, ∃ o, H a = some o
  | _, _, _, .non, _, h => nomatch h
  | _, _, _, .bl b, _, h => nomatch h
  | _, _, _, .int i, _, h => nomatch h
  | _, _, _, .str x, _, h => nomatch h
  | _, _, _, .fn n, _, h => nomatch h
  | _, _, _, .exc c a, _, h => nomatch h
  | _, _, _, .cl _ _, _, h => nomatch h
  | _, _, _, .lst h r n, a, m => by
    rcases List.mem_cons.mp m with e | m
    · exact ⟨_, e ▸ h⟩
    · exact Fus.there r a m
  | _, _, _, .fz h r, a, m => nomatch m
  | _, _, _, .tup h r, a, m => Fus.there r a m
  | _, _, _, .dk h q r n, a, m => by
    rcases List.mem_cons.mp m with e | m
    · exact ⟨_, e ▸ h⟩
    · exact Fus.there r a m
  | _, _, _, .dt h q r n, a, m => by
    rcases List.mem_cons.mp m with e | m
    · exact ⟨_, e ▸ h⟩
    · exact Fus.there r a m
  | _, _, _, .obj h h2 nk q r n n2 n3, a, m => by
    rcases List.mem_cons.mp m with e | m
    · exact ⟨_, e ▸ h⟩
    · rcases List.mem_cons.mp m with e | m
      · exact ⟨_, e ▸ h2⟩
      · exact Fus.there r a m
theorem Fus.there : ∀ {vs : List V} {ds : List D} {A : List Addr}, Fus K H vs ds A → ∀ a ∈ A, ∃ o, H a = some o
  | _, _, _, .nil, _, h => nomatch h
  | _, _, _, .cons h r _, a, m => by
    rcases List.mem_append.mp m with m | m
    · exact Fu.there h a m
    · exact Fus.there r a m
end
mutual
theorem Fu.thereN : ∀ {v : V} {d : D} {A : List Addr}, Fu K H v d A → ∀ a ∈ A, ∃ o, H a = some o ∧ NTb o
  | _, _, _, .non, _, h => nomatch h
  | _, _, _, .bl b, _, h => nomatch h
  | _, _, _, .int i, _, h => nomatch h
  | _, _, _, .str x, _, h => nomatch h
  | _, _, _, .fn n, _, h => nomatch h
  | _, _, _, .exc c a, _, h => nomatch h
  | _, _, _, .cl _ _, _, h => nomatch h
  | _, _, _, .lst h r n, a, m => by
    rcases List.mem_cons.mp m with e | m
    · rw [e]; exact ⟨_, h, True.intro⟩
    · exact Fus.thereN r a m
  | _, _, _, .fz h r, a, m => nomatch m
  | _, _, _, .tup h r, a, m => Fus.thereN r a m
  | _, _, _, .dk h q r n, a, m => by
    rcases List.mem_cons.mp m with e | m
    · rw [e]; exact ⟨_, h, True.intro⟩
    · exact Fus.thereN r a m
  | _, _, _, .dt h q r n, a, m => by
    rcases List.mem_cons.mp m with e | m
    · rw [e]; exact ⟨_, h, True.intro⟩
    · exact Fus.thereN r a m
  | _, _, _, .obj h h2 nk q r n n2 n3, a, m => by
    rcases List.mem_cons.mp m with e | m
    · rw [e]; exact ⟨_, h, True.intro⟩
    · rcases List.mem_cons.mp m with e | m
      · rw [e]; exact ⟨_, h2, True.intro⟩
      · exact Fus.thereN r a m
theorem Fus.thereN : ∀ {vs : List V} {ds : List D} {A : List Addr}, Fus K H vs ds A → ∀ a ∈ A, ∃ o, H a = some o ∧ NTb o
  | _, _, _, .nil, _, h => nomatch h
  | _, _, _, .cons h r _, a, m => by
    rcases List.mem_append.mp m with m | m
    · exact Fu.thereN h a m
    · exact Fus.thereN r a m
end
theorem Fu.same {v : V} {d : D} {A : List Addr} (f : Fu K H v d A) (e : Same H H') : Fu K H' v d A :=
  f.at (fun a ha => by obtain ⟨o, h, n⟩ := f.thereN a ha; rw [h]; exact e.mv h n) fun b o _ n h => e.mv h n
theorem Fus.same {v : List V} {d : List D} {A : List Addr} (f : Fus K H v d A) (e : Same H H') : Fus K H' v d A :=
  f.at (fun a ha => by obtain ⟨o, h, n⟩ := f.thereN a ha; rw [h]; exact e.mv h n) fun b o _ n h => e.mv h n

mutual
theorem Rd.fu : ∀ {v : V} {d : D}, Rd K H v d → immD d = true → Fu K H v d []
  | _, _, .non, _ => .non
  | _, _, .bl b, _ => .bl b
  | _, _, .int i, _ => .int i
  | _, _, .str x, _ => .str x
  | _, _, .fn n, _ => .fn n
  | _, _, .exc c a, _ => .exc c a
  | _, _, .cl h1 h2, _ => .cl h1 h2
  | _, _, .lst _ _, m => absurd m (by rw [immD]; exact Bool.false_ne_true)
  | _, _, .fz h r, m => .fz h (Rds.fu r (by rw [immD] at m; exact m))
  | _, _, .tup h r, m => .tup h (Rds.fu r (by rw [immD] at m; exact m))
  | _, _, .dk _ _ _, m => absurd m (by rw [immD]; exact Bool.false_ne_true)
  | _, _, .dt _ _ _, m => absurd m (by rw [immD]; exact Bool.false_ne_true)
  | _, _, .obj _ _ _ _ _, m => absurd m (by rw [immD]; exact Bool.false_ne_true)
theorem Rds.fu : ∀ {vs : List V} {ds : List D}, Rds K H vs ds → immDs ds = true → Fus K H vs ds []
  | _, _, .nil, _ => .nil
  | _, _, .cons h r, m => Fus.cons (A := []) (B := []) (Rd.fu h (by rw [immDs, Bool.and_eq_true] at m; exact m.1)) (Rds.fu r (by rw [immDs, Bool.and_eq_true] at m; exact m.2)) (fun _ h => nomatch h)
end
theorem Fus.app {vs ws : List V} {ds es : List D} {A B : List Addr} (f : Fus K H vs ds A) (g : Fus K H ws es B) (n : ∀ x ∈ A, x ∉ B) : Fus K H (vs ++ ws) (ds ++ es) (A ++ B) := by
  induction vs generalizing ds A with
  | nil => cases f; exact g
  | cons v vs ih =>
    cases f with
    | cons h r m =>
      rw [List.append_assoc]
      refine .cons h (ih r fun x hx => n x (List.mem_append_right _ hx)) fun x hx q => ?_
      rcases List.mem_append.mp q with q | q
      · exact m x hx q
      · exact n x (List.mem_append_left _ hx) q
theorem Rds.app {vs ws : List V} {ds es : List D} (f : Rds K H vs ds) (g : Rds K H ws es) : Rds K H (vs ++ ws) (ds ++ es) := by
  induction vs generalizing ds with
  | nil => cases f; exact g
  | cons v vs ih =>
    cases f with
    | cons h r => exact .cons h (ih r)
theorem Rds.length {vs : List V} {ds : List D} (f : Rds K H vs ds) : vs.length = ds.length := by
  induction vs generalizing ds with
  | nil => cases f; rfl
  | cons v vs ih =>
    cases f with
    | cons h r => simp [ih r]
theorem Rds.get {vs : List V} {ds : List D} (f : Rds K H vs ds) : ∀ {i : Nat} {d : D}, ds[i]? = some d → ∃ v, vs[i]? = some v ∧ Rd K H v d := by
  induction vs generalizing ds with
  | nil => cases f; intro i d h; simp at h
  | cons v vs ih =>
    cases f with
    | cons h r =>
      intro i d q
      cases i with
      | zero => simp at q; subst q; exact ⟨v, rfl, h⟩
      | succ i => simpa using ih r (by simpa using q)
theorem Rds.getV {vs : List V} {ds : List D} (f : Rds K H vs ds) : ∀ {i : Nat} {v : V}, vs[i]? = some v → ∃ d, ds[i]? = some d ∧ Rd K H v d := by
  induction vs generalizing ds with
  | nil => intro i v h; simp at h
  | cons v vs ih =>
    cases f with
    | cons h r =>
      intro i d q
      cases i with
      | zero => simp at q; subst q; exact ⟨_, rfl, h⟩
      | succ i => simpa using ih r (by simpa using q)
theorem Fus.length {vs : List V} {ds : List D} {A : List Addr} (f : Fus K H vs ds A) : vs.length = ds.length := f.rd.length
/-- an item of what is owned -/
theorem Fus.get {vs : List V} {ds : List D} {A : List Addr} (f : Fus K H vs ds A) : ∀ {i : Nat} {d : D}, ds[i]? = some d → ∃ v A', vs[i]? = some v ∧ Fu K H v d A' ∧ ∀ a ∈ A', a ∈ A := by
  induction vs generalizing ds A with
  | nil => cases f; intro i d h; simp at h
  | cons v vs ih =>
    cases f with
    | cons h r m =>
      intro i d q
      cases i with
      | zero => simp at q; subst q; exact ⟨v, _, rfl, h, fun a ha => List.mem_append_left _ ha⟩
      | succ i =>
        obtain ⟨w, A', h1, h2, h3⟩ := ih r (by simpa using q : _ = some d)
        exact ⟨w, A', by simpa using h1, h2, fun a ha => List.mem_append_right _ (h3 a ha)⟩
/-- an item changed for another -/
theorem Fus.set {vs : List V} {ds : List D} {A B : List Addr} {w : V} {e : D} (g : Fu K H w e B) : ∀ {vs : List V} {ds : List D} {A : List Addr}, Fus K H vs ds A → (∀ x ∈ B, x ∉ A) → ∀ i, ∃ A', Fus K H (vs.set i w) (ds.set i e) A' ∧ ∀ a ∈ A', a ∈ A ∨ a ∈ B := by
  intro vs
  induction vs with
  | nil => intro ds A f n i; cases f; exact ⟨[], .nil, fun a h => nomatch h⟩
  | cons v vs ih =>
    intro ds A f n i
    cases f with
    | cons h r m =>
      rename_i A1 A2
      cases i with
      | zero =>
        refine ⟨_, .cons g r fun x hx q => n x hx (List.mem_append_right _ q), fun a ha => ?_⟩
        rcases List.mem_append.mp ha with q | q
        · exact .inr q
        · exact .inl (List.mem_append_right _ q)
      | succ i =>
        obtain ⟨A', h1, h2⟩ := ih r (fun x hx q => n x hx (List.mem_append_right _ q)) i
        refine ⟨_, .cons h h1 fun x hx q => ?_, fun a ha => ?_⟩
        · rcases h2 x q with q | q
          · exact m x hx q
          · exact n x q (List.mem_append_left _ hx)
        · rcases List.mem_append.mp ha with q | q
          · exact .inl (List.mem_append_left _ q)
          · rcases h2 a q with q | q
            · exact .inl (List.mem_append_right _ q)
            · exact .inr q
end

/-! ### the outcome of an expression -/
/-- the slots' values read as data -/
structure REnv (K : PySem.W.Frag) (ρ : Env) (σ : L2.St) (H : Hp) : Prop where
  len : ρ.length = σ.length
  val : ∀ (i : Nat) (d : D), ρ[i]? = some (some d) → ∃ v, σ[i]? = some (some v) ∧ Rd K H v d
  tabs : TabsL H
theorem REnv.mono {K : PySem.W.Frag} {ρ : Env} {σ : L2.St} {H H' : Hp} (h : REnv K ρ σ H) (e : Same H H') : REnv K ρ σ H' := ⟨h.len, fun i d q =>
  let ⟨v, h1, h2⟩ := h.val i d q
  ⟨v, h1, h2.mono e⟩, h.tabs.up e⟩

section
variable {α β : Type}
def Out (mg : Str → Option Value) (W : WX) (σ : L2.St) (H : Hp) (r : R α) (P : α → Prop) : Prop := match r with
  | .ok a => P a
  | .ex c => ∃ C, mg c = some (.ref C) ∧ ∀ H', Same H H' → W (.ref C) none σ H'
  | .st => False
variable {mg : Str → Option Value} {W : WX} {σ : L2.St} {H H' : Hp}
theorem Out.bind {r : R α} {g : α → R β} {P : β → Prop} (h : Out mg W σ H (r.bind g) P) : Out mg W σ H r fun a => Out mg W σ H (g a) P := by
  cases r with
  | ok a => exact h
  | ex c => exact h
  | st => exact h
theorem Out.mono {r : R α} {P P' : α → Prop} (h : Out mg W σ H r P) (q : ∀ a, r = .ok a → P a → P' a) : Out mg W σ H r P' := by
  cases r with
  | ok a => exact q a rfl h
  | ex c => exact h
  | st => exact h
theorem Out.up {r : R α} {P : α → Prop} (h : Out mg W σ H r P) (e : Same H H') : Out mg W σ H' r P := by
  cases r with
  | ok a => exact h
  | ex c => obtain ⟨C, h1, h2⟩ := h; exact ⟨C, h1, fun H2 s => h2 H2 (e.trans s)⟩
  | st => exact h
end

/-- a value that is read -/
def tF (K : PySem.W.Frag) (mg : Str → Option Value) (W : WX) (f : Env → R D) : TE := fun σ H Q => ∃ ρ, REnv K ρ σ H ∧ Out mg W σ H (f ρ) fun d => ∀ v H', Same H H' → Rd K H' v d → Q v H'
/-- a value that is new and the asker's own -/
def tG (K : PySem.W.Frag) (mg : Str → Option Value) (W : WX) (f : Env → R D) : TE := fun σ H Q => ∃ ρ, REnv K ρ σ H ∧ Out mg W σ H (f ρ) fun d => ∀ v H' A, Same H H' → Fu K H' v d A → (∀ a ∈ A, H a = none) → Q v H'
/-- several values -/
def tFs (K : PySem.W.Frag) (mg : Str → Option Value) (W : WX) (f : Env → R (List D)) : TA := fun σ H Q => ∃ ρ, REnv K ρ σ H ∧ Out mg W σ H (f ρ) fun ds => ∀ vs H', Same H H' → Rds K H' vs ds → Q vs H'
def tGs (K : PySem.W.Frag) (mg : Str → Option Value) (W : WX) (f : Env → R (List D)) : TA := fun σ H Q => ∃ ρ, REnv K ρ σ H ∧ Out mg W σ H (f ρ) fun ds => ∀ vs H' A, Same H H' → Fus K H' vs ds A → (∀ a ∈ A, H a = none) → Q vs H'
/-- a test -/
def tT (K : PySem.W.Frag) (mg : Str → Option Value) (W : WX) (f : Env → R Bool) : TT := fun σ H Q => ∃ ρ, REnv K ρ σ H ∧ Out mg W σ H (f ρ) fun b => ∀ H', Same H H' → Q b H'

structure VE (X : Cx) (W : WX) (e : Expr) (f : Env → R D) : Prop where
  pe : PE X e (tF X.K X.mg W f)
structure VG (X : Cx) (W : WX) (e : Expr) (f : Env → R D) : Prop where
  pe : PE X e (tG X.K X.mg W f)
structure VT (X : Cx) (W : WX) (e : Expr) (f : Env → R Bool) : Prop where
  pt : PT X e (tT X.K X.mg W f)
structure VW (X : Cx) (W : WX) (e : Expr) (f : Env → R Bool) : Prop where
  pw : PW X e (tT X.K X.mg W f)
structure VA (X : Cx) (W : WX) (es : List Expr) (f : Env → R (List D)) : Prop where
  pa : PA X es (tFs X.K X.mg W f)
structure VB (X : Cx) (W : WX) (es : List Expr) (f : Env → R (List D)) : Prop where
  pa : PA X es (tGs X.K X.mg W f)

/-- weaker readings -/
theorem peW {X : Cx} {e : Expr} {t u : TE} (h : PE X e t) (q : ∀ σ H Q, u σ H Q → t σ H Q) : PE X e u := ⟨fun pins s σ H Q I x => h.run pins s σ H Q I (q σ H Q x)⟩
theorem ptW {X : Cx} {e : Expr} {t u : TT} (h : PT X e t) (q : ∀ σ H Q, u σ H Q → t σ H Q) : PT X e u := ⟨fun pins s σ H Q I x => h.run pins s σ H Q I (q σ H Q x)⟩
theorem pwW {X : Cx} {e : Expr} {t u : TT} (h : PW X e t) (q : ∀ σ H Q, u σ H Q → t σ H Q) : PW X e u := ⟨fun wh pins s σ H Q I x => h.run wh pins s σ H Q I (q σ H Q x)⟩
theorem paW {X : Cx} {es : List Expr} {t u : TA} (h : PA X es t) (q : ∀ σ H Q, u σ H Q → t σ H Q) : PA X es u := ⟨fun pos pins s σ H Q I x => h.run pos pins s σ H Q I (q σ H Q x)⟩
theorem psW {X : Cx} {st : Stmt} {t u : TS} (h : PS X st t) (q : ∀ D σ H, u D σ H → t D σ H) : PS X st u := ⟨fun pins s σ H D I x => h.run pins s σ H D I (q D σ H x)⟩
theorem pssW {X : Cx} {st : List Stmt} {t u : TS} (h : PSs X st t) (q : ∀ D σ H, u D σ H → t D σ H) : PSs X st u := ⟨fun pins s σ H D I x => h.run pins s σ H D I (q D σ H x)⟩

section
variable {X : Cx} {W : WX} {e a b c : Expr} {es : List Expr} {f g h : Env → R D} {pos : Pos}
theorem VG.ve (v : VG X W e f) : VE X W e f := ⟨peW v.pe fun σ H Q ⟨ρ, r, o⟩ => ⟨ρ, r, o.mono fun d _ q v H' A s fu _ => q v H' s fu.rd⟩⟩
/-- what is no list is anyone's -/
def imm (f : Env → R D) (ρ : Env) : R D := (f ρ).bind fun d => if immD d = true then .ok d else .st
theorem VE.vg (v : VE X W e f) : VG X W e (imm f) := ⟨peW v.pe fun σ H Q ⟨ρ, r, o⟩ => ⟨ρ, r, (Out.bind o).mono fun d _ q v H' s rd => by
  by_cases m : immD d = true
  · rw [if_pos m] at q
    exact q v H' [] s (rd.fu m) (fun _ h => nomatch h)
  · rw [if_neg m] at q
    exact q.elim⟩⟩

/-! ### names, constants -/
def varE (i : Nat) (ρ : Env) : R D := match ρ[i]? with
  | some (some d) => .ok d
  | _ => .st
theorem ve_var (i : Nat) {x : Str} (p : PE X (.Name x pos) (tVar i)) : VE X W (.Name x pos) (varE i) := ⟨peW p fun σ H Q ⟨ρ, r, o⟩ => by
  unfold varE at o
  split at o
  · rename_i d e
    obtain ⟨v, h1, h2⟩ := r.val i d e
    exact ⟨v, h1, o v H (Same.refl H) h2⟩
  · exact o.elim⟩
def cE (d : D) (_ : Env) : R D := .ok d
theorem vg_c {v : V} {d : D} (p : PE X e (tC v)) (fu : ∀ H, Fu X.K H v d []) : VG X W e (cE d) := ⟨peW p fun σ H Q ⟨ρ, r, o⟩ => o v H [] (Same.refl H) (fu H) (fun _ h => nomatch h)⟩
theorem vg_int {i : Int} {j} : VG X W (.Constant (.int i) j pos) (cE (.int i)) := vg_c pe_int fun _ => .int i
theorem vg_str {i : Str} {j} : VG X W (.Constant (.str i) j pos) (cE (.str i)) := vg_c pe_str fun _ => .str i
theorem vg_bl {i : Bool} {j} : VG X W (.Constant (.bool i) j pos) (cE (.bl i)) := vg_c pe_bl fun _ => .bl i
theorem vg_non {j} : VG X W (.Constant .none j pos) (cE .non) := vg_c pe_non fun _ => .non

/-! ### argument lists -/
def nilA (_ : Env) : R (List D) := .ok []
def consA (f : Env → R D) (fs : Env → R (List D)) (ρ : Env) : R (List D) := (f ρ).bind fun d => (fs ρ).bind fun ds => .ok (d :: ds)
theorem va_nil : VA X W [] nilA := ⟨paW pa_nil fun σ H Q ⟨ρ, r, o⟩ => o [] H (Same.refl H) .nil⟩
theorem vb_nil : VB X W [] nilA := ⟨paW pa_nil fun σ H Q ⟨ρ, r, o⟩ => o [] H [] (Same.refl H) .nil (fun _ h => nomatch h)⟩
theorem va_cons {fs : Env → R (List D)} (ha : VE X W e f) (hr : VA X W es fs) (hs : starEach (e :: es) X.env = (false, eval e X.env) :: starEach es X.env := by rfl) : VA X W (e :: es) (consA f fs) :=
  ⟨paW (pa_cons ha.pe hr.pa hs) fun σ H Q ⟨ρ, r, o⟩ => ⟨ρ, r, (Out.bind o).mono fun d _ q v H1 s1 r1 => ⟨ρ, r.mono s1, ((Out.bind q).up s1).mono fun ds _ q vs H2 s2 r2 => q (v :: vs) H2 (s1.trans s2) (.cons (r1.mono s2) r2)⟩⟩⟩
theorem vb_cons {fs : Env → R (List D)} (ha : VG X W e f) (hr : VB X W es fs) (hs : starEach (e :: es) X.env = (false, eval e X.env) :: starEach es X.env := by rfl) : VB X W (e :: es) (consA f fs) :=
  ⟨paW (pa_cons ha.pe hr.pa hs) fun σ H Q ⟨ρ, r, o⟩ => ⟨ρ, r, (Out.bind o).mono fun d _ q v H1 A s1 f1 n1 => ⟨ρ, r.mono s1, ((Out.bind q).up s1).mono fun ds _ q vs H2 B s2 f2 n2 => q (v :: vs) H2 (A ++ B) (s1.trans s2)
    (.cons (f1.same s2) f2 fun x hx hb => by obtain ⟨o, ho⟩ := f1.there x hx; rw [n2 x hb] at ho; cases ho)
    fun x hx => (List.mem_append.mp hx).elim (fun z => n1 x z) fun z => s1.free (n2 x z)⟩⟩⟩

/-! ### operators by values -/
/-- an operator's rule over data: pure, the result new -/
def OpD (X : Cx) (r : R2) (g : D → D → R D) : Prop := ∀ (x y : V) (d e : D) (H : Hp) (Q : VK) (z : D), Rd X.K H x d → Rd X.K H y e → g d e = .ok z → (∀ v H' A, Same H H' → Fu X.K H' v z A → (∀ a ∈ A, H a = none) → Q v H') → r x y H Q
def op2 (g : D → D → R D) (f h : Env → R D) (ρ : Env) : R D := (f ρ).bind fun d => (h ρ).bind fun e => g d e
def NoEx2 (g : D → D → R D) : Prop := ∀ d e c, g d e ≠ .ex c
theorem tOp_of {r : R2} {g : D → D → R D} (k : OpD X r g) (n : NoEx2 g) {σ : L2.St} {H : Hp} {Q : VK} (hh : tG X.K X.mg W (op2 g f h) σ H Q) : tOp r (tF X.K X.mg W f) (tF X.K X.mg W h) σ H Q := by
  obtain ⟨ρ, re, o⟩ := hh
  refine ⟨ρ, re, (Out.bind o).mono fun d _ q v H1 s1 r1 => ?_⟩
  refine ⟨ρ, re.mono s1, ((Out.bind q).up s1).mono fun e _ q w H2 s2 r2 => ?_⟩
  cases hz : g d e with
  | ok z =>
    rw [hz] at q
    exact k v w d e H2 Q z (r1.mono s2) r2 hz fun u H3 A s3 f3 n3 => q u H3 A ((s1.trans s2).trans s3) f3 fun a ha => (s1.trans s2).free (n3 a ha)
  | ex c => exact absurd hz (n d e c)
  | st => rw [hz] at q; exact q.elim
theorem vg_op {op : Operator} {r : R2} {g : D → D → R D} (ho : OpR X (binaryOp op) r) (k : OpD X r g) (n : NoEx2 g) (ha : VE X W a f) (hb : VE X W b h) : VG X W (.BinOp a op b pos) (op2 g f h) :=
  ⟨peW (pe_op ho ha.pe hb.pe) fun σ H Q q => tOp_of k n q⟩
theorem vg_cmp {op : CmpOp} {r : R2} {g : D → D → R D} (ho : OpR X (compareOp op) r) (k : OpD X r g) (n : NoEx2 g) (ha : VE X W a f) (hb : VE X W b h) (hm : behindInMarks op b = false) : VG X W (.Compare a [op] [b] pos) (op2 g f h) :=
  ⟨peW (pe_cmpR ho ha.pe hb.pe hm) fun σ H Q q => tOp_of k n q⟩
end
end Vs

namespace Vs
open PySem PySem.Spec PyProof.Rows L2

/-! ### operators -/
section
variable {X : Cx}
def rCatR (K : PySem.W.Frag) : R2 := fun x y H Q => ∃ l b xs zs, x = .ref l ∧ y = .ref b ∧ SqL K H l xs ∧ SqL K H b zs ∧ xs.length + zs.length ≤ sizeLine ∧ ∀ p, H p = none → Q (.ref p) (upd H p (.lst (xs ++ zs)))
theorem op_catR : OpR X (binaryOp .Add) (rCatR X.K) := by
  intro pins s σ H x y v u Q I rx ry h
  obtain ⟨l, b, xs, zs, rfl, rfl, hH, hB, hz, q⟩ := h
  cases rx
  cases ry
  obtain ⟨its, r, ⟨o, n, ho, hc, hdc, hd⟩, z⟩ := I.list hH
  obtain ⟨its2, r2, ⟨o2, n2, ho2, hc2, hdc2, hd2⟩, z2⟩ := I.list hB
  have l1 := r.length
  have l2 := r2.length
  obtain ⟨cls, dd, data, sl⟩ := o
  obtain ⟨cls2, dd2, data2, sl2⟩ := o2
  simp only at hc hd hc2 hd2 hdc hdc2
  subst hc hd hc2 hd2 hdc hdc2
  have ea : its.toArray ++ its2.toArray = (its ++ its2).toArray := by simp
  refine concat_meets ⟨_, ho, rfl⟩ ⟨_, ho2, rfl⟩ noFill_list_add seq_list_add F.slot_list_add F.entry_list_add (F.args_list_add_2 _ _) (list_addW l b its.toArray its2.toArray n n2 none none sl sl2 (by rw [List.size_toArray, List.size_toArray]; omega)) ⟨ho, ho2, ?_⟩
  rw [ea]
  exact ⟨.ref _, _, I.lnew (t' := s.toks) (r.append r2) (by rw [List.length_append]; omega), rfl, q _ I.fresh⟩
end

theorem new_same {H : Hp} {p : Addr} {o : HO} (h : H p = none) : Same H (upd H p o) := Same.of fun b x e => by
  rw [upd_ne (ne_of_none e h)]
  exact e
section
variable {K : PySem.W.Frag} {H : Hp}
theorem fu_new_lst {p : Addr} {vs : List V} {ds : List D} (hp : H p = none) (f : Rds K H vs ds) (m : immDs ds = true) : Fu K (upd H p (.lst vs)) (.ref p) (.lst ds) [p] :=
  .lst upd_same ((f.fu m).same (new_same hp)) (fun h => nomatch h)
theorem fu_new_tup {p : Addr} {vs : List V} {ds : List D} (hp : H p = none) (f : Rds K H vs ds) (m : immDs ds = true) : Fu K (upd H p (.tup vs)) (.ref p) (.tup ds) [] :=
  .tup (.inl upd_same) ((f.fu m).same (new_same hp))
theorem immDs_app : ∀ {xs ys : List D}, immDs xs = true → immDs ys = true → immDs (xs ++ ys) = true
  | [], _, _, h => h
  | x :: xs, ys, h, h' => by
    rw [immDs, Bool.and_eq_true] at h
    show (immD x && immDs (xs ++ ys)) = true
    rw [h.1, immDs_app h.2 h']
    rfl
theorem Rds.flat {vs : List V} {ds : List D} (f : Rds K H vs ds) : ∀ n, Rds K H (List.replicate n vs).flatten (List.replicate n ds).flatten
  | 0 => .nil
  | n + 1 => by
    rw [List.replicate_succ, List.replicate_succ, List.flatten_cons, List.flatten_cons]
    exact f.app (f.flat n)
theorem immDs_flat {ds : List D} (m : immDs ds = true) : ∀ n, immDs (List.replicate n ds).flatten = true
  | 0 => rfl
  | n + 1 => by
    rw [List.replicate_succ, List.flatten_cons]
    exact immDs_app m (immDs_flat m n)
end

def addD : D → D → R D
  | .int i, .int j => .ok (.int (i + j))
  | .str x, .str y => if x.length + y.length ≤ sizeLine then .ok (.str (x ++ y)) else .st
  | .lst xs, .lst ys => if xs.length + ys.length ≤ sizeLine ∧ immDs xs = true ∧ immDs ys = true then .ok (.lst (xs ++ ys)) else .st
  | .tup xs, .tup ys => if xs.length + ys.length ≤ sizeLine ∧ immDs xs = true ∧ immDs ys = true then .ok (.tup (xs ++ ys)) else .st
  | _, _ => .st
def subD : D → D → R D
  | .int i, .int j => .ok (.int (i - j))
  | _, _ => .st
def mulOk (i j : Int) : Prop := i.natAbs.log2 + j.natAbs.log2 < 134217000
instance (i j : Int) : Decidable (mulOk i j) := inferInstanceAs (Decidable (_ < _))
theorem mulOk.ok {i j : Int} (h : mulOk i j) : IntMulOk i j := by
  have b : ∀ x : Int, Builtin.Int.intBits x ≤ x.natAbs.log2 + 1 := fun x => by
    unfold Builtin.Int.intBits
    split <;> omega
  have h1 := b i
  have h2 := b j
  have h3 : i.natAbs.log2 + j.natAbs.log2 < 134217000 := h
  have e : bitsLine = 134217728 := by decide
  unfold IntMulOk
  intro z
  rw [Bool.and_eq_true] at z
  have z2 := z.2
  unfold Builtin.Int.intTooBig at z2
  have z3 := of_decide_eq_true z2
  rw [e] at z3
  omega
def mulD : D → D → R D
  | .int i, .int j => if mulOk i j then .ok (.int (i * j)) else .st
  | _, _ => .st
/-- a new list, so many times -/
def repD : D → D → R D
  | .lst xs, .int k => if 0 ≤ k ∧ xs.length * k.toNat ≤ sizeLine ∧ k < 2 ^ 63 ∧ immDs xs = true then .ok (.lst (List.replicate k.toNat xs).flatten) else .st
  | _, _ => .st
def fdivD : D → D → R D
  | .int i, .int j => if 0 < j ∧ j.natAbs.log2 < 9000 then .ok (.int (i / j)) else .st
  | _, _ => .st
def modD : D → D → R D
  | .int i, .int j => if 0 < j then .ok (.int (i % j)) else .st
  | _, _ => .st
def powD : D → D → R D
  | .int i, .int j => if 0 ≤ j ∧ (Builtin.Int.intBits i : Int) * j ≤ 2 ^ 27 then .ok (.int (i ^ j.toNat)) else .st
  | _, _ => .st
def shlD : D → D → R D
  | .int i, .int j => if 0 ≤ j ∧ (Builtin.Int.intBits i : Int) + j ≤ 2 ^ 27 then .ok (.int (i * 2 ^ j.toNat)) else .st
  | _, _ => .st
def shrD : D → D → R D
  | .int i, .int j => if 0 ≤ j then .ok (.int (i / 2 ^ j.toNat)) else .st
  | _, _ => .st
def andD : D → D → R D
  | .int i, .int j => .ok (.int (Builtin.bitAnd i j))
  | _, _ => .st
def orD : D → D → R D
  | .int i, .int j => .ok (.int (Builtin.bitOr i j))
  | _, _ => .st
def ltD : D → D → R D
  | .int i, .int j => .ok (.bl (decide (i < j)))
  | _, _ => .st
def leD : D → D → R D
  | .int i, .int j => .ok (.bl (decide (i ≤ j)))
  | _, _ => .st
def gtD : D → D → R D
  | .int i, .int j => .ok (.bl (decide (j < i)))
  | _, _ => .st
def geD : D → D → R D
  | .int i, .int j => .ok (.bl (decide (j ≤ i)))
  | _, _ => .st

section
variable {X : Cx}
theorem rI_opD {C : Int → Int → Prop} {w : Int → Int → V} {g : D → D → R D} (w' : Int → Int → D) (hw : ∀ i j H, Fu X.K H (w i j) (w' i j) [])
    (hg : ∀ d e z, g d e = .ok z → ∃ i j, d = .int i ∧ e = .int j ∧ C i j ∧ z = w' i j) : OpD X (rI C w) g := fun x y d e H Q z rx ry h q => by
  obtain ⟨i, j, rfl, rfl, c, rfl⟩ := hg d e z h
  cases rx
  cases ry
  exact ⟨i, j, rfl, rfl, c, q _ H [] (Same.refl H) (hw i j H) (fun _ h => nomatch h)⟩
theorem rI0_opD {w : Int → Int → V} {g : D → D → R D} (w' : Int → Int → D) (hw : ∀ i j H, Fu X.K H (w i j) (w' i j) [])
    (hg : ∀ d e z, g d e = .ok z → ∃ i j, d = .int i ∧ e = .int j ∧ z = w' i j) : OpD X (rI0 w) g := fun x y d e H Q z rx ry h q => by
  obtain ⟨i, j, rfl, rfl, rfl⟩ := hg d e z h
  cases rx
  cases ry
  exact ⟨i, j, rfl, rfl, q _ H [] (Same.refl H) (hw i j H) (fun _ h => nomatch h)⟩
theorem d_sub : OpD X (rI0 fun i j => .int (i - j)) subD := rI0_opD (fun i j => .int (i - j)) (fun i j H => .int _) fun d e z h => by
  unfold subD at h; split at h
  · cases h; exact ⟨_, _, rfl, rfl, rfl⟩
  · cases h
theorem d_and : OpD X (rI0 fun i j => .int (Builtin.bitAnd i j)) andD := rI0_opD (fun i j => .int (Builtin.bitAnd i j)) (fun i j H => .int _) fun d e z h => by
  unfold andD at h; split at h
  · cases h; exact ⟨_, _, rfl, rfl, rfl⟩
  · cases h
theorem d_or : OpD X (rI0 fun i j => .int (Builtin.bitOr i j)) orD := rI0_opD (fun i j => .int (Builtin.bitOr i j)) (fun i j H => .int _) fun d e z h => by
  unfold orD at h; split at h
  · cases h; exact ⟨_, _, rfl, rfl, rfl⟩
  · cases h
theorem d_lt : OpD X (rI0 fun i j => .bl (decide (i < j))) ltD := rI0_opD (fun i j => .bl (decide (i < j))) (fun i j H => .bl _) fun d e z h => by
  unfold ltD at h; split at h
  · cases h; exact ⟨_, _, rfl, rfl, rfl⟩
  · cases h
theorem d_le : OpD X (rI0 fun i j => .bl (decide (i ≤ j))) leD := rI0_opD (fun i j => .bl (decide (i ≤ j))) (fun i j H => .bl _) fun d e z h => by
  unfold leD at h; split at h
  · cases h; exact ⟨_, _, rfl, rfl, rfl⟩
  · cases h
theorem d_gt : OpD X (rI0 fun i j => .bl (decide (j < i))) gtD := rI0_opD (fun i j => .bl (decide (j < i))) (fun i j H => .bl _) fun d e z h => by
  unfold gtD at h; split at h
  · cases h; exact ⟨_, _, rfl, rfl, rfl⟩
  · cases h
theorem d_ge : OpD X (rI0 fun i j => .bl (decide (j ≤ i))) geD := rI0_opD (fun i j => .bl (decide (j ≤ i))) (fun i j H => .bl _) fun d e z h => by
  unfold geD at h; split at h
  · cases h; exact ⟨_, _, rfl, rfl, rfl⟩
  · cases h
theorem d_fdiv : OpD X (rI CDivW fun i j => .int (i / j)) fdivD := rI_opD (fun i j => .int (i / j)) (fun i j H => .int _) fun d e z h => by
  unfold fdivD at h; split at h
  · split at h
    · rename_i c; cases h; exact ⟨_, _, rfl, rfl, c, rfl⟩
    · cases h
  · cases h
theorem d_mod : OpD X (rI (fun _ j => 0 < j) fun i j => .int (i % j)) modD := rI_opD (fun i j => .int (i % j)) (fun i j H => .int _) fun d e z h => by
  unfold modD at h; split at h
  · split at h
    · rename_i c; cases h; exact ⟨_, _, rfl, rfl, c, rfl⟩
    · cases h
  · cases h
def CPowV (i j : Int) : Prop := 0 ≤ j ∧ (Builtin.Int.intBits i : Int) * j ≤ 2 ^ 27
theorem op_powV : OpR X (binaryOp .Pow) (rI CPowV fun i j => .int (i ^ j.toNat)) := opI fun _ _ _ _ _ _ _ hc q => pow_int hc.1 hc.2 q
theorem d_pow : OpD X (rI CPowV fun i j => .int (i ^ j.toNat)) powD := rI_opD (fun i j => .int (i ^ j.toNat)) (fun i j H => .int _) fun d e z h => by
  unfold powD at h; split at h
  · split at h
    · rename_i c; cases h; exact ⟨_, _, rfl, rfl, c, rfl⟩
    · cases h
  · cases h
theorem d_shl : OpD X (rI CShl fun i j => .int (i * 2 ^ j.toNat)) shlD := rI_opD (fun i j => .int (i * 2 ^ j.toNat)) (fun i j H => .int _) fun d e z h => by
  unfold shlD at h; split at h
  · split at h
    · rename_i c; cases h; exact ⟨_, _, rfl, rfl, c, rfl⟩
    · cases h
  · cases h
theorem d_shr : OpD X (rI (fun _ j => 0 ≤ j) fun i j => .int (i / 2 ^ j.toNat)) shrD := rI_opD (fun i j => .int (i / 2 ^ j.toNat)) (fun i j H => .int _) fun d e z h => by
  unfold shrD at h; split at h
  · split at h
    · rename_i c; cases h; exact ⟨_, _, rfl, rfl, c, rfl⟩
    · cases h
  · cases h

def rAddA (K : PySem.W.Frag) : R2 := fun x y H Q => (rI0 (fun i j => .int (i + j)) x y H Q) ∨ (∃ i j, x = .str i ∧ y = .str j ∧ i.length + j.length ≤ sizeLine ∧ Q (.str (i ++ j)) H) ∨ rCatR K x y H Q ∨ rCatA K x y H Q
theorem op_addA : OpR X (binaryOp .Add) (rAddA X.K) := op_add.or (op_add_str.or (op_catR.or op_catA))
theorem d_add : OpD X (rAddA X.K) addD := fun x y d e H Q z rx ry h q => by
  unfold addD at h
  split at h
  · cases h; cases rx; cases ry
    exact .inl ⟨_, _, rfl, rfl, q _ H [] (Same.refl H) (.int _) (fun _ h => nomatch h)⟩
  · split at h
    · rename_i c
      cases h; cases rx; cases ry
      exact .inr (.inl ⟨_, _, rfl, rfl, c, q _ H [] (Same.refl H) (.str _) (fun _ h => nomatch h)⟩)
    · cases h
  · split at h
    · rename_i c
      cases h
      cases rx with
      | lst h1 r1 =>
        cases ry with
        | lst h2 r2 =>
          refine .inr (.inr (.inl ⟨_, _, _, _, rfl, rfl, h1, h2, by rw [r1.length, r2.length]; exact c.1, fun p hp => ?_⟩))
          exact q _ _ [p] (new_same hp) (fu_new_lst hp (r1.app r2) (immDs_app c.2.1 c.2.2)) fun a ha => by
            rw [List.mem_singleton.mp ha]; exact hp
    · cases h
  · split at h
    · rename_i c
      cases h
      cases rx with
      | tup h1 r1 =>
        cases ry with
        | tup h2 r2 =>
          refine .inr (.inr (.inr ⟨_, _, _, _, rfl, rfl, h1.sq, h2.sq, by rw [r1.length, r2.length]; exact c.1, fun e => ?_, fun _ e => ?_, fun _ _ p hp => ?_⟩))
          · subst e
            cases r1
            exact q _ H [] (Same.refl H) (.tup h2 (r2.fu c.2.2)) (fun _ h => nomatch h)
          · subst e
            cases r2
            rw [List.append_nil] at q
            exact q _ H [] (Same.refl H) (.tup h1 (r1.fu c.2.1)) (fun _ h => nomatch h)
          · exact q _ _ [] (new_same hp) (fu_new_tup hp (r1.app r2) (immDs_app c.2.1 c.2.2)) (fun _ h => nomatch h)
    · cases h
  · cases h
theorem op_mulI : OpR X (binaryOp .Mult) (rI IntMulOk fun i j => .int (i * j)) := opI fun _ _ _ _ _ _ _ hc q => mul_int q hc
theorem d_mul : OpD X (rI IntMulOk fun i j => .int (i * j)) mulD := rI_opD (fun i j => .int (i * j)) (fun i j H => .int _) fun d e z h => by
  unfold mulD at h; split at h
  · split at h
    · rename_i c; cases h; exact ⟨_, _, rfl, rfl, c.ok, rfl⟩
    · cases h
  · cases h
theorem nx_rep : NoEx2 repD := fun d e c h => by unfold repD at h; split at h <;> first | cases h | (split at h <;> cases h)
/-- [..] * k -/
theorem vg_rep {W : WX} {a b : Expr} {f g : Env → R D} {pos : Pos} (ha : VG X W a f) (hb : VE X W b g) : VG X W (.BinOp a .Mult b pos) (op2 repD f g) := ⟨peW (pe_op op_rep ha.pe hb.pe) fun σ H Q ⟨ρ, re, o⟩ => ⟨ρ, re, (Out.bind o).mono fun d _ q v H1 A s1 f1 n1 => ⟨ρ, re.mono s1, ((Out.bind q).up s1).mono fun e _ q w H2 s2 r2 => by
  unfold repD at q
  split at q
  · split at q
    · rename_i c
      cases r2
      cases f1 with
      | lst h1 r1 n =>
        refine ⟨_, _, _, rfl, rfl, s2.mv h1, by omega, c.2.2.1, by rw [r1.length]; exact c.2.1, fun p hp => ?_⟩
        exact q _ _ [p] ((s1.trans s2).trans (new_same hp)) (fu_new_lst hp ((r1.rd.mono s2).flat _) (immDs_flat c.2.2.2 _)) fun a ha => by
          rw [List.mem_singleton.mp ha]; exact (s1.trans s2).free hp
    · exact q.elim
  · exact q.elim⟩⟩⟩
end
/-- none of these raises -/
theorem nx_add : NoEx2 addD := fun d e c h => by unfold addD at h; split at h <;> first | cases h | (split at h <;> cases h)
theorem nx_sub : NoEx2 subD := fun d e c h => by unfold subD at h; split at h <;> cases h
theorem nx_mul : NoEx2 mulD := fun d e c h => by unfold mulD at h; split at h <;> first | cases h | (split at h <;> cases h)
theorem nx_fdiv : NoEx2 fdivD := fun d e c h => by unfold fdivD at h; split at h <;> first | cases h | (split at h <;> cases h)
theorem nx_mod : NoEx2 modD := fun d e c h => by unfold modD at h; split at h <;> first | cases h | (split at h <;> cases h)
theorem nx_pow : NoEx2 powD := fun d e c h => by unfold powD at h; split at h <;> first | cases h | (split at h <;> cases h)
theorem nx_shl : NoEx2 shlD := fun d e c h => by unfold shlD at h; split at h <;> first | cases h | (split at h <;> cases h)
theorem nx_shr : NoEx2 shrD := fun d e c h => by unfold shrD at h; split at h <;> first | cases h | (split at h <;> cases h)
theorem nx_and : NoEx2 andD := fun d e c h => by unfold andD at h; split at h <;> cases h
theorem nx_or : NoEx2 orD := fun d e c h => by unfold orD at h; split at h <;> cases h
theorem nx_lt : NoEx2 ltD := fun d e c h => by unfold ltD at h; split at h <;> cases h
theorem nx_le : NoEx2 leD := fun d e c h => by unfold leD at h; split at h <;> cases h
theorem nx_gt : NoEx2 gtD := fun d e c h => by unfold gtD at h; split at h <;> cases h
theorem nx_ge : NoEx2 geD := fun d e c h => by unfold geD at h; split at h <;> cases h
end Vs

namespace Vs
open PySem PySem.Spec PyProof.Rows L2

/-! ### equality -/
mutual
def pyD : D → PyData
  | .non => .none
  | .bl b => .bool b
  | .int i => .int i
  | .str x => .str x
  | .lst xs => .list (pyDs xs)
  | .fz xs => .list (pyDs xs)
  | .tup xs => .tuple (pyDs xs)
  | .dic _ _ _ => .dict []
  | .fn _ => .dict []
  | .exc _ _ => .dict []
  | .cl _ _ => .dict []
  | .obj _ _ _ => .dict []
def pyDs : List D → List PyData
  | [] => []
  | x :: xs => pyD x :: pyDs xs
end
section
variable {K : PySem.W.Frag} {H : Hp}
mutual
theorem Rd.dp : ∀ {v : V} {d : D}, Rd K H v d → (pyD d).canLay0 = true → Dp K H v (pyD d)
  | _, _, .non, _ => .non
  | _, _, .bl b, _ => .bl b
  | _, _, .int i, _ => .int i
  | _, _, .str x, _ => .str x
  | _, _, .fn n, m => by rw [pyD] at m; cases m
  | _, _, .exc c a, m => by rw [pyD] at m; cases m
  | _, _, .cl _ _, m => by rw [pyD] at m; cases m
  | _, _, .lst h r, m => by
    rw [pyD] at m ⊢
    exact .lst h (Rds.dps r m)
  | _, _, .fz h r, m => by
    rw [pyD] at m ⊢
    exact .lst (.inl (.inr ⟨_, h⟩)) (Rds.dps r m)
  | _, _, .tup h r, m => by
    rw [pyD] at m ⊢
    exact .tup h.sq (Rds.dps r m)
  | _, _, .dk _ _ _, m => by rw [pyD] at m; cases m
  | _, _, .dt _ _ _, m => by rw [pyD] at m; cases m
  | _, _, .obj _ _ _ _ _, m => by rw [pyD] at m; cases m
theorem Rds.dps : ∀ {vs : List V} {ds : List D}, Rds K H vs ds → PyData.canLayAll0 (pyDs ds) = true → DpAll K H vs (pyDs ds)
  | _, _, .nil, _ => .nil
  | _, _, .cons h r, m => by
    rw [pyDs] at m ⊢
    have m' : (pyD _).canLay0 = true ∧ PyData.canLayAll0 (pyDs _) = true := Bool.and_eq_true_iff.mp m
    exact .cons (Rd.dp h m'.1) (Rds.dps r m'.2)
end
end
def eqB (d e : D) : Bool := PyData.eqv (pyD d) (pyD e)
def eqD (d e : D) : R D := if SeqAt.shaped (pyD d) = true ∧ SeqAt.shaped (pyD e) = true then .ok (.bl (eqB d e)) else .st
def neD (d e : D) : R D := if SeqAt.shaped (pyD d) = true ∧ SeqAt.shaped (pyD e) = true then .ok (.bl (!eqB d e)) else .st
def isNonB : D → Bool
  | .non => true
  | _ => false
def isD (d e : D) : R D := match e with
  | .non => .ok (.bl (isNonB d))
  | _ => .st
def isNotD (d e : D) : R D := match e with
  | .non => .ok (.bl (!isNonB d))
  | _ => .st
theorem nx_eq : NoEx2 eqD := fun d e c h => by unfold eqD at h; split at h <;> cases h
theorem nx_ne : NoEx2 neD := fun d e c h => by unfold neD at h; split at h <;> cases h
theorem nx_is : NoEx2 isD := fun d e c h => by unfold isD at h; split at h <;> cases h
theorem nx_isNot : NoEx2 isNotD := fun d e c h => by unfold isNotD at h; split at h <;> cases h
def rIsNo : R2 := fun x y H Q => y = .non ∧ Q (.bl (decide (x = .non))) H
def rIsNotNo : R2 := fun x y H Q => y = .non ∧ Q (.bl (!decide (x = .non))) H
theorem isNonB_eq {K : PySem.W.Frag} {H : Hp} {v : V} {d : D} (r : Rd K H v d) : decide (v = .non) = isNonB d := by
  cases r <;> rfl
section
variable {X : Cx}
theorem d_eq : OpD X (rEqD X.K) eqD := fun x y d e H Q z rx ry h q => by
  unfold eqD at h
  split at h
  · rename_i c
    cases h
    exact ⟨_, _, rx.dp (SeqAt.canLay_of_shaped c.1), ry.dp (SeqAt.canLay_of_shaped c.2), c.1, c.2, q _ H [] (Same.refl H) (.bl _) (fun _ h => nomatch h)⟩
  · cases h
theorem d_ne : OpD X (rNeD X.K) neD := fun x y d e H Q z rx ry h q => by
  unfold neD at h
  split at h
  · rename_i c
    cases h
    exact ⟨_, _, rx.dp (SeqAt.canLay_of_shaped c.1), ry.dp (SeqAt.canLay_of_shaped c.2), c.1, c.2, q _ H [] (Same.refl H) (.bl _) (fun _ h => nomatch h)⟩
  · cases h
theorem d_is : OpD X rIsNo isD := fun x y d e H Q z rx ry h q => by
  unfold isD at h
  split at h
  · cases h
    cases ry
    refine ⟨rfl, ?_⟩
    rw [isNonB_eq rx]
    exact q _ H [] (Same.refl H) (.bl _) (fun _ h => nomatch h)
  · cases h
theorem d_isNot : OpD X rIsNotNo isNotD := fun x y d e H Q z rx ry h q => by
  unfold isNotD at h
  split at h
  · cases h
    cases ry
    refine ⟨rfl, ?_⟩
    rw [isNonB_eq rx]
    exact q _ H [] (Same.refl H) (.bl _) (fun _ h => nomatch h)
  · cases h
end

section
variable {X : Cx} {W : WX} {e a b c : Expr} {es : List Expr} {f g h : Env → R D} {fs : Env → R (List D)} {pos : Pos}

/-! ### -x -/
def negD : D → R D
  | .int i => .ok (.int (-i))
  | _ => .st
def negE (f : Env → R D) (ρ : Env) : R D := (f ρ).bind negD
theorem vg_neg (ha : VE X W a f) : VG X W (.UnaryOp .USub a pos) (negE f) := ⟨peW (pe_un un_neg ha.pe) fun σ H Q ⟨ρ, re, o⟩ => ⟨ρ, re, (Out.bind o).mono fun d _ q v H1 s1 r1 => by
  unfold negD at q
  split at q
  · cases r1
    exact ⟨_, rfl, q _ H1 [] s1 (.int _) (fun _ h => nomatch h)⟩
  · exact q.elim⟩⟩

/-! ### an item -/
def ixD : D → D → R D
  | .lst xs, .int i => match atI xs i with | some d => .ok d | none => .st
  | .tup xs, .int i => match atI xs i with | some d => .ok d | none => .st
  | .str z, .int i => if z.length ≤ sizeLine then (match atI z.cps.toList i with | some c => .ok (.str ⟨#[c]⟩) | none => .st) else .st
  | _, _ => .st
theorem atI_rd {K : PySem.W.Frag} {H : Hp} {vs : List V} {ds : List D} (r : Rds K H vs ds) {i : Int} {d : D} (h : atI ds i = some d) : ∃ v, atI vs i = some v ∧ Rd K H v d := by
  unfold atI at h ⊢
  rw [r.length]
  cases e : ixN ds.length i with
  | none => rw [e] at h; cases h
  | some j => rw [e] at h; exact r.get h
theorem ve_ix (ha : VE X W a f) (hb : VE X W b g) (hs : PlainIx b) : VE X W (.Subscript a b pos) (op2 ixD f g) :=
  ⟨peW (pe_ix ix_seq ha.pe hb.pe hs) fun σ H Q ⟨ρ, re, o⟩ => ⟨ρ, re, (Out.bind o).mono fun d _ q v H1 s1 r1 => ⟨ρ, re.mono s1, ((Out.bind q).up s1).mono fun e _ q w H2 s2 r2 => by
    unfold ixD at q
    split at q
    · split at q
      · rename_i hx
        cases r2
        cases r1 with
        | lst h1 r1 =>
          obtain ⟨u, hu, ru⟩ := atI_rd r1 hx
          exact .inl ⟨_, _, _, u, rfl, rfl, s2.seq h1, hu, q u H2 (s1.trans s2) (ru.mono s2)⟩
      · exact q.elim
    · split at q
      · rename_i hx
        cases r2
        cases r1 with
        | tup h1 r1 =>
          obtain ⟨u, hu, ru⟩ := atI_rd r1 hx
          exact .inr (.inl ⟨_, _, _, u, rfl, rfl, (seqT s2 h1).sq, hu, q u H2 (s1.trans s2) (ru.mono s2)⟩)
      · exact q.elim
    · split at q
      · rename_i hz
        split at q
        · rename_i hx
          cases r2
          cases r1
          exact .inr (.inr ⟨_, _, _, rfl, rfl, hz, hx, q _ H2 (s1.trans s2) (.str _)⟩)
        · exact q.elim
      · exact q.elim
    · exact q.elim⟩⟩⟩

/-! ### slices -/
def cutL {α : Type} (xs : List α) (lo hi : Option Int) : List α := (xs.drop (HT.sIx xs.length 0 lo)).take (HT.sIx xs.length xs.length hi - HT.sIx xs.length 0 lo)
theorem Rds.take {K : PySem.W.Frag} {H : Hp} : ∀ {vs : List V} {ds : List D} (n : Nat), Rds K H vs ds → Rds K H (vs.take n) (ds.take n)
  | _, _, 0, _ => .nil
  | _, _, _ + 1, .nil => .nil
  | _, _, n + 1, .cons h r => .cons h (Rds.take n r)
theorem Rds.drop {K : PySem.W.Frag} {H : Hp} : ∀ {vs : List V} {ds : List D} (n : Nat), Rds K H vs ds → Rds K H (vs.drop n) (ds.drop n)
  | _, _, 0, r => r
  | _, _, _ + 1, .nil => .nil
  | _, _, n + 1, .cons h r => Rds.drop n r
theorem Rds.cut {K : PySem.W.Frag} {H : Hp} {vs : List V} {ds : List D} (r : Rds K H vs ds) (lo hi : Option Int) : Rds K H (cutV vs lo hi) (cutL ds lo hi) := by
  unfold cutV cutL
  rw [r.length]
  exact (r.drop _).take _
def slD (d : D) (lo hi : Option Int) : R D := match d with
  | .lst xs => .ok (.lst (cutL xs lo hi))
  | .str z => if z.length ≤ sizeLine then .ok (.str (cutS z lo hi)) else .st
  | .tup xs => .ok (.tup (cutL xs lo hi))
  | _ => .st
theorem cut_whole {α : Type} {xs : List α} {lo hi : Option Int} (h : HT.sIx xs.length 0 lo = 0 ∧ HT.sIx xs.length xs.length hi = xs.length) : cutL xs lo hi = xs := by
  unfold cutL
  rw [h.1, h.2, List.drop_zero, Nat.sub_zero, List.take_length]
structure VO (X : Cx) (W : WX) (e : Option Expr) (f : Env → R (Option Int)) : Prop where
  po : PO X e (fun σ H Q => ∃ ρ, REnv X.K ρ σ H ∧ Out X.mg W σ H (f ρ) fun o => ∀ H', Same H H' → Q o H')
theorem poW {X : Cx} {e : Option Expr} {t u : TO} (h : PO X e t) (q : ∀ σ H Q, u σ H Q → t σ H Q) : PO X e u := ⟨fun pins s σ H Q I x => h.run pins s σ H Q I (q σ H Q x)⟩
def noO (_ : Env) : R (Option Int) := .ok none
def someO (f : Env → R D) (ρ : Env) : R (Option Int) := (f ρ).bind fun d => match d with | .int i => .ok (some i) | _ => .st
theorem vo_none : VO X W none noO := ⟨poW po_none fun σ H Q ⟨ρ, re, o⟩ => o H (Same.refl H)⟩
theorem vo_some (ha : VE X W a f) : VO X W (some a) (someO f) := ⟨poW (po_some ha.pe) fun σ H Q ⟨ρ, re, o⟩ => ⟨ρ, re, (Out.bind o).mono fun d _ q v H1 s1 r1 => by
  cases r1 with
  | int i => exact ⟨i, rfl, q H1 s1⟩
  | _ => exact q.elim⟩⟩
def slE (f : Env → R D) (lo hi : Env → R (Option Int)) (ρ : Env) : R D := (f ρ).bind fun d => (lo ρ).bind fun l => (hi ρ).bind fun u => slD d l u
def rSlA (K : PySem.W.Frag) : V → Option Int → Option Int → Hp → VK → Prop := fun x lo hi H Q => rSlL K x lo hi H Q ∨ rSlS x lo hi H Q ∨ L2.rSlA K x lo hi H Q
theorem sl_any : SlR X (rSlA X.K) := sl_list.or (sl_str.or sl_tupA)
theorem ve_sl {lo hi : Option Expr} {l u : Env → R (Option Int)} {p2 : Pos} (ha : VE X W a f) (hl : VO X W lo l) (hu : VO X W hi u) : VE X W (.Subscript a (.Slice lo hi none p2) pos) (slE f l u) :=
  ⟨peW (pe_slice sl_any ha.pe hl.po hu.po) fun σ H Q ⟨ρ, re, o⟩ => ⟨ρ, re, (Out.bind o).mono fun d _ q v H1 s1 r1 => ⟨ρ, re.mono s1, ((Out.bind q).up s1).mono fun l _ q H2 s2 => ⟨ρ, re.mono (s1.trans s2), ((Out.bind q).up (s1.trans s2)).mono fun u _ q H3 s3 => by
    unfold slD at q
    split at q
    · cases r1 with
      | lst h1 r1 =>
        refine .inl ⟨_, _, rfl, (s2.trans s3).seq h1, fun p hp => ?_⟩
        exact q _ _ ((s1.trans (s2.trans s3)).trans (new_same hp)) (.lst (SqL.of upd_same) ((r1.mono ((s2.trans s3).trans (new_same hp))).cut _ _))
    · split at q
      · rename_i hz
        cases r1
        exact .inr (.inl ⟨_, rfl, hz, q _ H3 (s1.trans (s2.trans s3)) (.str _)⟩)
      · exact q.elim
    · cases r1 with
      | tup h1 r1 =>
        have h2 := seqT (s2.trans s3) h1
        have r2 := r1.mono (s2.trans s3)
        refine .inr (.inr ⟨_, _, rfl, h2.sq, fun hw => ?_, fun hw p hp => ?_⟩)
        · rw [r2.length] at hw
          rw [cut_whole hw] at q
          exact q _ H3 (s1.trans (s2.trans s3)) (.tup h2 r2)
        · exact q _ _ ((s1.trans (s2.trans s3)).trans (new_same hp)) (.tup (.inl upd_same) ((r2.mono (new_same hp)).cut _ _))
    · exact q.elim⟩⟩⟩⟩
/-- a slice of what is no list within: new -/
def immL : D → R D
  | .lst xs => if immDs xs = true then .ok (.lst xs) else .st
  | d => if immD d = true then .ok d else .st
def slG (f : Env → R D) (lo hi : Env → R (Option Int)) (ρ : Env) : R D := (slE f lo hi ρ).bind immL
theorem slG_tup {a : Addr} {vs : List V} {ds : List D} {l u : Option Int} {σ : L2.St} {H H3 : Hp} {Q : VK} (s : Same H H3) (h2 : TpT X.K H3 a vs) (r2 : Rds X.K H3 vs ds) (q : Out X.mg W σ H (immL (.tup (cutL ds l u))) fun d => ∀ v H' A, Same H H' → Fu X.K H' v d A → (∀ a ∈ A, H a = none) → Q v H') :
    L2.rSlA X.K (.ref a) l u H3 Q := by
  have q : Out X.mg W σ H (if immD (D.tup (cutL ds l u)) = true then R.ok (D.tup (cutL ds l u)) else R.st) _ := q
  by_cases m : immD (D.tup (cutL ds l u)) = true
  · rw [if_pos m] at q
    have m2 : immDs (cutL ds l u) = true := by rw [immD] at m; exact m
    refine ⟨_, _, rfl, h2.sq, fun hw => ?_, fun hw p hp => ?_⟩
    · have hwh : cutL ds l u = ds := cut_whole (by rw [← r2.length]; exact hw)
      rw [hwh] at q m2
      exact q _ H3 [] s (.tup h2 (r2.fu m2)) (fun _ h => nomatch h)
    · exact q _ _ [] (s.trans (new_same hp)) (fu_new_tup hp (r2.cut l u) m2) (fun _ h => nomatch h)
  · rw [if_neg m] at q
    exact q.elim
theorem vg_sl {lo hi : Option Expr} {l u : Env → R (Option Int)} {p2 : Pos} (ha : VE X W a f) (hl : VO X W lo l) (hu : VO X W hi u) : VG X W (.Subscript a (.Slice lo hi none p2) pos) (slG f l u) :=
  ⟨peW (pe_slice sl_any ha.pe hl.po hu.po) fun σ H Q ⟨ρ, re, o⟩ => ⟨ρ, re, (Out.bind (show Out X.mg W σ H (slE f l u ρ) _ from Out.bind o)).mono fun d _ q v H1 s1 r1 => ⟨ρ, re.mono s1, ((Out.bind q).up s1).mono fun l _ q H2 s2 => ⟨ρ, re.mono (s1.trans s2), ((Out.bind q).up (s1.trans s2)).mono fun u _ q H3 s3 => by
    unfold slD at q
    split at q
    · cases r1 with
      | lst h1 r1 =>
        refine .inl ⟨_, _, rfl, (s2.trans s3).seq h1, fun p hp => ?_⟩
        have r4 := (r1.mono (s2.trans s3)).cut l u
        generalize cutL _ l u = ys at q r4
        have q : Out X.mg W σ H (if immDs ys = true then R.ok (D.lst ys) else R.st) _ := q
        by_cases m : immDs ys = true
        · rw [if_pos m] at q
          exact q _ _ [p] ((s1.trans (s2.trans s3)).trans (new_same hp)) (fu_new_lst hp r4 m) fun a ha => by
            rw [List.mem_singleton.mp ha]; exact (s1.trans (s2.trans s3)).free hp
        · rw [if_neg m] at q
          exact q.elim
    · split at q
      · rename_i hz
        cases r1
        have q : Out X.mg W σ H (R.ok (D.str (cutS _ l u))) _ := q
        exact .inr (.inl ⟨_, rfl, hz, q _ H3 [] (s1.trans (s2.trans s3)) (.str _) (fun _ h => nomatch h)⟩)
      · exact q.elim
    · cases r1 with
      | tup h1 r1 => exact .inr (.inr (slG_tup (s1.trans (s2.trans s3)) (seqT (s2.trans s3) h1) (r1.mono (s2.trans s3)) q))
    · exact q.elim⟩⟩⟩⟩

/-! ### displays -/
def LenA (f : Env → R (List D)) (n : Nat) : Prop := ∀ ρ ds, f ρ = .ok ds → ds.length = n
theorem len_nil : LenA nilA 0 := fun ρ ds h => by cases h; rfl
theorem len_cons {n : Nat} (h : LenA fs n) : LenA (consA f fs) (n + 1) := fun ρ ds e => by
  unfold consA at e
  cases h1 : f ρ with
  | ok d =>
    rw [h1] at e
    cases h2 : fs ρ with
    | ok es =>
      rw [R.bind_ok, h2, R.bind_ok] at e
      cases e
      rw [List.length_cons, h ρ es h2]
    | st => rw [R.bind_ok, h2] at e; cases e
    | ex c => rw [R.bind_ok, h2] at e; cases e
  | st => rw [h1] at e; cases e
  | ex c => rw [h1] at e; cases e
def lstE (fs : Env → R (List D)) (ρ : Env) : R D := (fs ρ).bind fun ds => .ok (.lst ds)
def tupE (fs : Env → R (List D)) (ρ : Env) : R D := (fs ρ).bind fun ds => .ok (.tup ds)
theorem le_line {n m : Nat} (h : m = n) (k : n ≤ 1000) : m ≤ sizeLine := by rw [h]; exact Nat.le_trans k (by decide)
theorem ve_tup {n : Nat} {x1} (ha : VA X W es fs) (hl : LenA fs n) (hn : n ≤ 1000 := by decide) : VE X W (.Tuple es x1 pos) (tupE fs) := ⟨peW (pe_tup ha.pa) fun σ H Q ⟨ρ, re, o⟩ => ⟨ρ, re, (Out.bind o).mono fun ds hd q vs H1 s1 r1 =>
  ⟨le_line (r1.length.trans (hl ρ ds hd)) hn, fun p hp => q _ _ (s1.trans (new_same hp)) (.tup (.inl upd_same) (r1.mono (new_same hp)))⟩⟩⟩
theorem vg_tup {n : Nat} {x1} (ha : VB X W es fs) (hl : LenA fs n) (hn : n ≤ 1000 := by decide) : VG X W (.Tuple es x1 pos) (tupE fs) := ⟨peW (pe_tup ha.pa) fun σ H Q ⟨ρ, re, o⟩ => ⟨ρ, re, (Out.bind o).mono fun ds hd q vs H1 A s1 r1 n1 =>
  ⟨le_line (r1.length.trans (hl ρ ds hd)) hn, fun p hp => q _ _ A (s1.trans (new_same hp)) (.tup (.inl upd_same) (r1.same (new_same hp))) n1⟩⟩⟩
theorem ve_lst {n : Nat} (ha : VA X W es fs) (hl : LenA fs n) (hn : n ≤ 1000 := by decide) : VE X W (.List es pos) (lstE fs) := ⟨peW (pe_lst ha.pa) fun σ H Q ⟨ρ, re, o⟩ => ⟨ρ, re, (Out.bind o).mono fun ds hd q vs H1 s1 r1 =>
  ⟨le_line (r1.length.trans (hl ρ ds hd)) hn, fun p hp => q _ _ (s1.trans (new_same hp)) (.lst (SqL.of upd_same) (r1.mono (new_same hp)))⟩⟩⟩
theorem vg_lst {n : Nat} (ha : VB X W es fs) (hl : LenA fs n) (hn : n ≤ 1000 := by decide) : VG X W (.List es pos) (lstE fs) := ⟨peW (pe_lst ha.pa) fun σ H Q ⟨ρ, re, o⟩ => ⟨ρ, re, (Out.bind o).mono fun ds hd q vs H1 A s1 r1 n1 =>
  ⟨le_line (r1.length.trans (hl ρ ds hd)) hn, fun p hp => q _ _ (p :: A) (s1.trans (new_same hp)) (.lst upd_same (r1.same (new_same hp)) fun m => by obtain ⟨o, ho⟩ := r1.there p m; rw [ho] at hp; cases hp)
    fun a m => (List.mem_cons.mp m).elim (fun z => by rw [z]; exact s1.free hp) fun z => n1 a z⟩⟩⟩

/-! ### truths -/
def boolR (f : Env → R D) (ρ : Env) : R Bool := (f ρ).bind fun d => match d with | .bl b => .ok b | _ => .st
def andE (f g : Env → R D) (ρ : Env) : R D := (boolR f ρ).bind fun b => if b = true then g ρ else .ok (.bl false)
def orE (f g : Env → R D) (ρ : Env) : R D := (boolR f ρ).bind fun b => if b = true then .ok (.bl true) else g ρ
def notE (f : Env → R D) (ρ : Env) : R D := (boolR f ρ).bind fun b => .ok (.bl (!b))
theorem boolR_out {σ : L2.St} {H : Hp} {ρ : Env} {P : Bool → Prop} (o : Out X.mg W σ H (boolR f ρ) P) : Out X.mg W σ H (f ρ) fun d => ∃ b, d = .bl b ∧ P b := by
  unfold boolR at o
  refine (Out.bind o).mono fun d _ q => ?_
  cases d with
  | bl b => exact ⟨b, rfl, q⟩
  | _ => exact q.elim
theorem vg_one {op} (ha : VG X W a f) : VG X W (.BoolOp op [a] pos) f := ⟨pe_one ha.pe⟩
theorem vg_and {rest : List Expr} (ha : VE X W a f) (hb : VG X W (.BoolOp .And (b :: rest) pos) g) : VG X W (.BoolOp .And (a :: b :: rest) pos) (andE f g) :=
  ⟨peW (pe_and ha.pe hb.pe) fun σ H Q ⟨ρ, re, o⟩ => ⟨ρ, re, (boolR_out (Out.bind o)).mono fun d _ ⟨k, e, q⟩ v H1 s1 r1 => by
    subst e
    cases r1
    refine ⟨k, rfl, ?_⟩
    cases k with
    | true =>
      rw [if_pos rfl] at q ⊢
      exact ⟨ρ, re.mono s1, (q.up s1).mono fun d _ q v H2 A s2 f2 n2 => q v H2 A (s1.trans s2) f2 fun a m => s1.free (n2 a m)⟩
    | false =>
      rw [if_neg Bool.false_ne_true] at q ⊢
      exact q _ H1 [] s1 (.bl _) (fun _ h => nomatch h)⟩⟩
theorem vg_or {rest : List Expr} (ha : VE X W a f) (hb : VG X W (.BoolOp .Or (b :: rest) pos) g) : VG X W (.BoolOp .Or (a :: b :: rest) pos) (orE f g) :=
  ⟨peW (pe_or ha.pe hb.pe) fun σ H Q ⟨ρ, re, o⟩ => ⟨ρ, re, (boolR_out (Out.bind o)).mono fun d _ ⟨k, e, q⟩ v H1 s1 r1 => by
    subst e
    cases r1
    refine ⟨k, rfl, ?_⟩
    cases k with
    | false =>
      rw [if_neg Bool.false_ne_true] at q ⊢
      exact ⟨ρ, re.mono s1, (q.up s1).mono fun d _ q v H2 A s2 f2 n2 => q v H2 A (s1.trans s2) f2 fun a m => s1.free (n2 a m)⟩
    | true =>
      rw [if_pos rfl] at q ⊢
      exact q _ H1 [] s1 (.bl _) (fun _ h => nomatch h)⟩⟩
theorem vg_not (ha : VE X W a f) : VG X W (.UnaryOp .Not a pos) (notE f) :=
  ⟨peW (pe_not ha.pe) fun σ H Q ⟨ρ, re, o⟩ => ⟨ρ, re, (boolR_out (Out.bind o)).mono fun d _ ⟨k, e, q⟩ v H1 s1 r1 => by
    subst e
    cases r1
    exact ⟨k, rfl, q _ H1 [] s1 (.bl _) (fun _ h => nomatch h)⟩⟩⟩

/-! ### tests -/
def andT (f g : Env → R Bool) (ρ : Env) : R Bool := (f ρ).bind fun b => if b = true then g ρ else .ok false
def orT (f g : Env → R Bool) (ρ : Env) : R Bool := (f ρ).bind fun b => if b = true then .ok true else g ρ
def notT (f : Env → R Bool) (ρ : Env) : R Bool := (f ρ).bind fun b => .ok (!b)
theorem vt_val (ha : VE X W a f) (he : ∀ whole, isTrue a X.env whole = (do let v ← whole; standAt a.pos; holding [v] (truthy v)) := by intro _; rfl) : VT X W a (boolR f) :=
  ⟨ptW (pt_val ha.pe he) fun σ H Q ⟨ρ, re, o⟩ => ⟨ρ, re, (boolR_out o).mono fun d _ ⟨k, e, q⟩ v H1 s1 r1 => by
    subst e
    cases r1
    exact ⟨k, rfl, q H1 s1⟩⟩⟩
theorem tTest_of {r : R2} {gd : D → D → R D} (k : OpD X r gd) (n : NoEx2 gd) {σ : L2.St} {H : Hp} {Q : Bool → Hp → Prop} (hh : tT X.K X.mg W (boolR (op2 gd f g)) σ H Q) : tTest (tOp r (tF X.K X.mg W f) (tF X.K X.mg W g)) σ H Q := by
  obtain ⟨ρ, re, o⟩ := hh
  refine tOp_of k n ⟨ρ, re, (boolR_out o).mono fun d _ ⟨k, e, q⟩ v H1 A s1 f1 n1 => ?_⟩
  subst e
  cases f1
  exact ⟨k, rfl, q H1 s1⟩
theorem vt_cmp {op : CmpOp} {r : R2} {gd : D → D → R D} (ho : OpR X (compareOp op) r) (k : OpD X r gd) (n : NoEx2 gd) (ha : VE X W a f) (hb : VE X W b g) (hm : behindInMarks op b = false) : VT X W (.Compare a [op] [b] pos) (boolR (op2 gd f g)) :=
  ⟨ptW (pt_cmpR ho ha.pe hb.pe hm) fun σ H Q q => tTest_of k n q⟩
theorem VW.vt {f : Env → R Bool} (h : VW X W a f) : VT X W a f := ⟨h.pw.pt⟩
theorem vw_and1 {f : Env → R Bool} (ha : VT X W a f) : VW X W (.BoolOp .And [a] pos) f := ⟨pw_and1 ha.pt⟩
theorem vw_or1 {f : Env → R Bool} (ha : VT X W a f) : VW X W (.BoolOp .Or [a] pos) f := ⟨pw_or1 ha.pt⟩
theorem vw_and {f g : Env → R Bool} {rest : List Expr} (ha : VT X W a f) (hb : VW X W (.BoolOp .And (b :: rest) pos) g) : VW X W (.BoolOp .And (a :: b :: rest) pos) (andT f g) :=
  ⟨pwW (pw_and ha.pt hb.pw) fun σ H Q ⟨ρ, re, o⟩ => ⟨ρ, re, (Out.bind o).mono fun k _ q H1 s1 => by
    cases k with
    | true => exact ⟨ρ, re.mono s1, ((show Out X.mg W σ H (g ρ) _ from q).up s1).mono fun k _ q H2 s2 => q H2 (s1.trans s2)⟩
    | false => exact q H1 s1⟩⟩
theorem vw_or {f g : Env → R Bool} {rest : List Expr} (ha : VT X W a f) (hb : VW X W (.BoolOp .Or (b :: rest) pos) g) : VW X W (.BoolOp .Or (a :: b :: rest) pos) (orT f g) :=
  ⟨pwW (pw_or ha.pt hb.pw) fun σ H Q ⟨ρ, re, o⟩ => ⟨ρ, re, (Out.bind o).mono fun k _ q H1 s1 => by
    cases k with
    | true => exact q H1 s1
    | false => exact ⟨ρ, re.mono s1, ((show Out X.mg W σ H (g ρ) _ from q).up s1).mono fun k _ q H2 s2 => q H2 (s1.trans s2)⟩⟩⟩
theorem vt_not {f : Env → R Bool} (ha : VT X W a f) : VT X W (.UnaryOp .Not a pos) (notT f) :=
  ⟨ptW (pt_not ha.pt) fun σ H Q ⟨ρ, re, o⟩ => ⟨ρ, re, (Out.bind o).mono fun k _ q H1 s1 => q H1 s1⟩⟩
/-! ### a if t else b -/
def ifE (t : Env → R Bool) (f g : Env → R D) (ρ : Env) : R D := (t ρ).bind fun b => if b = true then f ρ else g ρ
theorem ve_if {t : Env → R Bool} (hc : VT X W c t) (ha : VE X W a f) (hb : VE X W b g) : VE X W (.IfExp c a b pos) (ifE t f g) :=
  ⟨peW (pe_ifExp hc.pt ha.pe hb.pe) fun σ H Q ⟨ρ, re, o⟩ => ⟨ρ, re, (Out.bind o).mono fun k _ q H1 s1 => by
    cases k with
    | true => exact ⟨ρ, re.mono s1, ((show Out X.mg W σ H (f ρ) _ from q).up s1).mono fun d _ q v H2 s2 r2 => q v H2 (s1.trans s2) r2⟩
    | false => exact ⟨ρ, re.mono s1, ((show Out X.mg W σ H (g ρ) _ from q).up s1).mono fun d _ q v H2 s2 r2 => q v H2 (s1.trans s2) r2⟩⟩⟩

/-! ### a < b < c -/
def chD (gd gd' : D → D → R D) (f g h : Env → R D) (ρ : Env) : R D := (f ρ).bind fun x => (g ρ).bind fun y => (gd x y).bind fun z => match z with
  | .bl true => (h ρ).bind fun w => gd' y w
  | .bl false => .ok (.bl false)
  | _ => .st
theorem tCh_of {r r' : R2} {gd gd' : D → D → R D} (k : OpD X r gd) (n : NoEx2 gd) (k' : OpD X r' gd') (n' : NoEx2 gd') {σ : L2.St} {H : Hp} {Q : VK} (hh : tG X.K X.mg W (chD gd gd' f g h) σ H Q) :
    tChain r r' (tF X.K X.mg W f) (tF X.K X.mg W g) (tF X.K X.mg W h) σ H Q := by
  obtain ⟨ρ, re, o⟩ := hh
  refine ⟨ρ, re, (Out.bind o).mono fun x _ q v H1 s1 r1 => ?_⟩
  refine ⟨ρ, re.mono s1, ((Out.bind q).up s1).mono fun y _ q w H2 s2 r2 => ?_⟩
  have q := Out.bind q
  cases hz : gd x y with
  | ok z =>
    rw [hz] at q
    have q : Out X.mg W σ H (match z with | .bl true => (h ρ).bind fun w => gd' y w | .bl false => .ok (.bl false) | _ => .st) _ := q
    refine k v w x y H2 _ z (r1.mono s2) r2 hz fun u H3 A s3 f3 n3 => ?_
    cases f3 with
    | bl b =>
      refine ⟨b, rfl, ?_⟩
      cases b with
      | true =>
        refine ⟨ρ, re.mono ((s1.trans s2).trans s3), ((Out.bind q).up ((s1.trans s2).trans s3)).mono fun e _ q t H4 s4 r4 => ?_⟩
        cases hz' : gd' y e with
        | ok z' =>
          rw [hz'] at q
          exact k' w t y e H4 Q z' (r2.mono (s3.trans s4)) r4 hz' fun u H5 A s5 f5 n5 => q u H5 A ((((s1.trans s2).trans s3).trans s4).trans s5) f5 fun a ha => (((s1.trans s2).trans s3).trans s4).free (n5 a ha)
        | ex c => exact absurd hz' (n' y e c)
        | st => rw [hz'] at q; exact q.elim
      | false => exact q _ H3 [] ((s1.trans s2).trans s3) (.bl _) (fun _ h => nomatch h)
    | _ => exact q.elim
  | ex c => exact absurd hz (n x y c)
  | st => rw [hz] at q; exact q.elim
theorem vg_ch {op op' : CmpOp} {r r' : R2} {gd gd' : D → D → R D} (ho : OpR X (compareOp op) r) (ho' : OpR X (compareOp op') r') (k : OpD X r gd) (n : NoEx2 gd) (k' : OpD X r' gd') (n' : NoEx2 gd') (ha : VE X W a f) (hb : VE X W b g) (hc : VE X W c h)
    (hm : lastMarks [op, op'] [b, c] = false := by with_unfolding_all rfl) : VG X W (.Compare a [op, op'] [b, c] pos) (chD gd gd' f g h) := ⟨peW (pe_chain ho ho' ha.pe hb.pe hc.pe hm) fun σ H Q q => tCh_of k n k' n' q⟩
theorem vt_ch {op op' : CmpOp} {r r' : R2} {gd gd' : D → D → R D} (ho : OpR X (compareOp op) r) (ho' : OpR X (compareOp op') r') (k : OpD X r gd) (n : NoEx2 gd) (k' : OpD X r' gd') (n' : NoEx2 gd') (ha : VE X W a f) (hb : VE X W b g) (hc : VE X W c h)
    (hm : lastMarks [op, op'] [b, c] = false := by with_unfolding_all rfl) : VT X W (.Compare a [op, op'] [b, c] pos) (boolR (chD gd gd' f g h)) := ⟨ptW (pt_chain ho ho' ha.pe hb.pe hc.pe hm) fun σ H Q ⟨ρ, re, o⟩ =>
  tCh_of k n k' n' ⟨ρ, re, (boolR_out o).mono fun d _ ⟨kk, e, q⟩ v H1 A s1 f1 n1 => by subst e; cases f1; exact ⟨kk, rfl, q H1 s1⟩⟩⟩
end
end Vs

namespace Vs
open PySem PySem.Spec PyProof.Rows L2

/-! ### built-in functions -/
def CbD (X : Cx) (r : List V → Hp → VK → Prop) (g : List D → R D) : Prop := ∀ (vs : List V) (ds : List D) (H : Hp) (Q : VK) (z : D), Rds X.K H vs ds → g ds = .ok z → (∀ v H' A, Same H H' → Fu X.K H' v z A → (∀ a ∈ A, H a = none) → Q v H') → r vs H Q
def NoEx1 (g : List D → R D) : Prop := ∀ ds c, g ds ≠ .ex c
def callB (g : List D → R D) (fs : Env → R (List D)) (ρ : Env) : R D := (fs ρ).bind g
section
variable {X : Cx} {W : WX} {e : Expr} {es : List Expr} {fs : Env → R (List D)} {x : Str} {p pos : Pos} {id T : String} {r : List V → Hp → VK → Prop} {g : List D → R D}
theorem tCB_of (k : CbD X r g) (n : NoEx1 g) {σ : L2.St} {H : Hp} {Q : VK} (h : tG X.K X.mg W (callB g fs) σ H Q) : tCB r (tFs X.K X.mg W fs) σ H Q := by
  obtain ⟨ρ, re, o⟩ := h
  refine ⟨ρ, re, (Out.bind o).mono fun ds _ q vs H1 s1 r1 => ?_⟩
  cases hz : g ds with
  | ok z =>
    rw [hz] at q
    exact k vs ds H1 Q z r1 hz fun v H2 A s2 f2 n2 => q v H2 A (s1.trans s2) f2 fun a m => s1.free (n2 a m)
  | ex c => exact absurd hz (n ds c)
  | st => rw [hz] at q; exact q.elim
theorem vg_callB (hc : CallR X (.builtin id) r) (k : CbD X r g) (n : NoEx1 g) (hg : Gl X x) (hm : X.mg x = none) (hv : bootBuiltins x = some (.builtin id)) (ha : VA X W (e :: es) fs) (hn : x ≠ "__name__" := by decide) (hdb : (x == ("__debug__" : Str)) = false := by decide)
    (he : starEach (e :: es) X.env = (false, eval e X.env) :: starEach es X.env := by rfl) (hpl : (backTo pos (starEach es X.env)).any (·.1) = false := by rfl) : VG X W (.Call (.Name x p) (e :: es) [] pos) (callB g fs) :=
  ⟨peW (pe_callB hc hg hm hv ha.pa hn hdb he hpl) fun σ H Q q => tCB_of k n q⟩
theorem vg_callTy (hc : CallR X (.type T) r) (k : CbD X r g) (n : NoEx1 g) (hg : Gl X x) (hm : X.mg x = none) (hv : bootBuiltins x = some (.type T)) (ha : VA X W (e :: es) fs) (hn : x ≠ "__name__" := by decide) (hdb : (x == ("__debug__" : Str)) = false := by decide)
    (he : starEach (e :: es) X.env = (false, eval e X.env) :: starEach es X.env := by rfl) (hpl : (backTo pos (starEach es X.env)).any (·.1) = false := by rfl) : VG X W (.Call (.Name x p) (e :: es) [] pos) (callB g fs) :=
  ⟨peW (pe_callTy hc hg hm hv ha.pa hn hdb he hpl) fun σ H Q q => tCB_of k n q⟩
end

def lenD : List D → R D
  | [.lst xs] => .ok (.int xs.length)
  | [.tup xs] => .ok (.int xs.length)
  | [.str z] => if z.length ≤ sizeLine then .ok (.int z.length) else .st
  | _ => .st
def absD : List D → R D
  | [.int i] => .ok (.int (if i < 0 then -i else i))
  | _ => .st
/-- ints of data -/
def intsO : List D → Option (List Int)
  | [] => some []
  | .int i :: r => (intsO r).map (i :: ·)
  | _ => none
def maxI (i j : Int) : Int := if j > i then j else i
def minI (i j : Int) : Int := if j < i then j else i
def maxL : List Int → Int
  | [] => 0
  | x :: r => r.foldl maxI x
def minL : List Int → Int
  | [] => 0
  | x :: r => r.foldl minI x
def maxD : List D → R D
  | [.int i, .int j] => .ok (.int (maxI i j))
  | [.lst xs] => match intsO xs with
    | some (n :: ns) => .ok (.int (maxL (n :: ns)))
    | _ => .st
  | _ => .st
def minD : List D → R D
  | [.int i, .int j] => .ok (.int (minI i j))
  | [.lst xs] => match intsO xs with
    | some (n :: ns) => .ok (.int (minL (n :: ns)))
    | _ => .st
  | _ => .st
def sumD : List D → R D
  | [.lst xs] => match intsO xs with
    | some ns => .ok (.int ns.sum)
    | none => .st
  | _ => .st
def bls : List D → Option (List Bool)
  | [] => some []
  | .bl i :: r => (bls r).map (i :: ·)
  | _ => none
def allD : List D → R D
  | [.lst xs] => match bls xs with
    | some bs => .ok (.bl (bs.all id))
    | none => .st
  | _ => .st
def anyD : List D → R D
  | [.lst xs] => match bls xs with
    | some bs => .ok (.bl (bs.any id))
    | none => .st
  | _ => .st
def intD : List D → R D
  | [.int i] => .ok (.int i)
  | [.bl k] => .ok (.int (if k then 1 else 0))
  | _ => .st
def strD : List D → R D
  | [.int i] => if i.natAbs.log2 < 1920 then .ok (.str (toString i)) else .st
  | _ => .st
def listD : List D → R D
  | [.lst xs] => if immDs xs = true then .ok (.lst xs) else .st
  | [.tup xs] => if immDs xs = true then .ok (.lst xs) else .st
  | _ => .st
def tupleD : List D → R D
  | [.lst xs] => if immDs xs = true then .ok (.tup xs) else .st
  | [.tup xs] => if immDs xs = true then .ok (.tup xs) else .st
  | _ => .st
def divmodD : List D → R D
  | [.int i, .int j] => if 0 < j ∧ j < 1073741824 then .ok (.tup [.int (i / j), .int (i % j)]) else .st
  | _ => .st
theorem maxI_foldl : ∀ (r : List Int) (x : Int), r.foldl maxI x ∈ x :: r ∧ ∀ y ∈ x :: r, y ≤ r.foldl maxI x
  | [], x => ⟨by simp, by simp⟩
  | z :: r, x => by
    have ih := maxI_foldl r (maxI x z)
    rw [List.foldl_cons]
    have hm : maxI x z = x ∨ maxI x z = z := by unfold maxI; split <;> simp
    have h1 : x ≤ maxI x z ∧ z ≤ maxI x z := by unfold maxI; split <;> constructor <;> omega
    refine ⟨?_, fun y hy => ?_⟩
    · rcases List.mem_cons.mp ih.1 with e | e
      · rw [e]; rcases hm with q | q <;> rw [q] <;> simp
      · simp [e]
    · have h2 := ih.2 (maxI x z) (by simp)
      rcases List.mem_cons.mp hy with e | e
      · subst e; omega
      · rcases List.mem_cons.mp e with e | e
        · subst e; omega
        · exact ih.2 y (by simp [e])
theorem minI_foldl : ∀ (r : List Int) (x : Int), r.foldl minI x ∈ x :: r ∧ ∀ y ∈ x :: r, r.foldl minI x ≤ y
  | [], x => ⟨by simp, by simp⟩
  | z :: r, x => by
    have ih := minI_foldl r (minI x z)
    rw [List.foldl_cons]
    have hm : minI x z = x ∨ minI x z = z := by unfold minI; split <;> simp
    have h1 : minI x z ≤ x ∧ minI x z ≤ z := by unfold minI; split <;> constructor <;> omega
    refine ⟨?_, fun y hy => ?_⟩
    · rcases List.mem_cons.mp ih.1 with e | e
      · rw [e]; rcases hm with q | q <;> rw [q] <;> simp
      · simp [e]
    · have h2 := ih.2 (minI x z) (by simp)
      rcases List.mem_cons.mp hy with e | e
      · subst e; omega
      · rcases List.mem_cons.mp e with e | e
        · subst e; omega
        · exact ih.2 y (by simp [e])
section
variable {K : PySem.W.Frag} {H : Hp}
theorem intsO_rd : ∀ {xs : List D} {ns : List Int} {vs : List V}, intsO xs = some ns → Rds K H vs xs → vs = ns.map V.int
  | [], ns, vs, h, r => by cases h; cases r; rfl
  | .int i :: xs, ns, vs, h, r => by
    rw [intsO] at h
    cases e : intsO xs with
    | none => rw [e] at h; cases h
    | some ms =>
      rw [e] at h
      cases h
      cases r with
      | cons h1 r1 => cases h1; rw [intsO_rd e r1]; rfl
  | .non :: _, _, _, h, _ => by cases h
  | .bl _ :: _, _, _, h, _ => by cases h
  | .str _ :: _, _, _, h, _ => by cases h
  | .lst _ :: _, _, _, h, _ => by cases h
  | .tup _ :: _, _, _, h, _ => by cases h
  | .dic _ _ _ :: _, _, _, h, _ => by cases h
  | .fn _ :: _, _, _, h, _ => by cases h
  | .exc _ _ :: _, _, _, h, _ => by cases h
  | .cl _ _ :: _, _, _, h, _ => by cases h
  | .obj _ _ _ :: _, _, _, h, _ => by cases h
theorem bls_rd : ∀ {xs : List D} {ns : List Bool} {vs : List V}, bls xs = some ns → Rds K H vs xs → vs = ns.map V.bl
  | [], ns, vs, h, r => by cases h; cases r; rfl
  | .bl i :: xs, ns, vs, h, r => by
    rw [bls] at h
    cases e : bls xs with
    | none => rw [e] at h; cases h
    | some ms =>
      rw [e] at h
      cases h
      cases r with
      | cons h1 r1 => cases h1; rw [bls_rd e r1]; rfl
  | .non :: _, _, _, h, _ => by cases h
  | .int _ :: _, _, _, h, _ => by cases h
  | .str _ :: _, _, _, h, _ => by cases h
  | .lst _ :: _, _, _, h, _ => by cases h
  | .tup _ :: _, _, _, h, _ => by cases h
  | .dic _ _ _ :: _, _, _, h, _ => by cases h
  | .fn _ :: _, _, _, h, _ => by cases h
  | .exc _ _ :: _, _, _, h, _ => by cases h
  | .cl _ _ :: _, _, _, h, _ => by cases h
  | .obj _ _ _ :: _, _, _, h, _ => by cases h
end
section
variable {X : Cx}
theorem rds1 {K : PySem.W.Frag} {H : Hp} {vs : List V} {d : D} (r : Rds K H vs [d]) : ∃ v, vs = [v] ∧ Rd K H v d := by
  cases r with
  | cons h r => cases r; exact ⟨_, rfl, h⟩
theorem rds2 {K : PySem.W.Frag} {H : Hp} {vs : List V} {d e : D} (r : Rds K H vs [d, e]) : ∃ v w, vs = [v, w] ∧ Rd K H v d ∧ Rd K H w e := by
  cases r with
  | cons h r => cases r with
    | cons h2 r => cases r; exact ⟨_, _, rfl, h, h2⟩
theorem cb_len : CbD X (fun xs H Q => ∃ x n, xs = [x] ∧ LenV X.K x H n ∧ Q (.int n) H) lenD := fun vs ds H Q z r h q => by
  unfold lenD at h
  split at h
  · obtain ⟨v, rfl, h1⟩ := rds1 r
    cases h
    cases h1 with
    | lst h1 r1 => exact ⟨_, _, rfl, .inl ⟨_, h1, rfl⟩, by rw [r1.length]; exact q _ H [] (Same.refl H) (.int _) (fun _ h => nomatch h)⟩
  · obtain ⟨v, rfl, h1⟩ := rds1 r
    cases h
    cases h1 with
    | tup h1 r1 => exact ⟨_, _, rfl, .inr ⟨_, h1.sq, rfl⟩, by rw [r1.length]; exact q _ H [] (Same.refl H) (.int _) (fun _ h => nomatch h)⟩
  · obtain ⟨v, rfl, h1⟩ := rds1 r
    split at h
    · rename_i c
      cases h
      cases h1
      exact ⟨_, _, rfl, ⟨c, rfl⟩, q _ H [] (Same.refl H) (.int _) (fun _ h => nomatch h)⟩
    · cases h
  · cases h
theorem nx_len : NoEx1 lenD := fun ds c h => by unfold lenD at h; split at h <;> first | cases h | (split at h <;> cases h)
theorem cb_abs : CbD X (fun xs H Q => ∃ i, xs = [.int i] ∧ Q (.int (if i < 0 then -i else i)) H) absD := fun vs ds H Q z r h q => by
  unfold absD at h
  split at h
  · obtain ⟨v, rfl, h1⟩ := rds1 r
    cases h
    cases h1
    exact ⟨_, rfl, q _ H [] (Same.refl H) (.int _) (fun _ h => nomatch h)⟩
  · cases h
theorem nx_abs : NoEx1 absD := fun ds c h => by unfold absD at h; split at h <;> cases h
def rMaxA (K : PySem.W.Frag) : List V → Hp → VK → Prop := fun xs H Q => (∃ i j, xs = [.int i, .int j] ∧ Q (.int (if j > i then j else i)) H) ∨ rMax K xs H Q
theorem call_maxA (hc : X.calm = true) : CallR X (.builtin "max") (rMaxA X.K) := (call_max2 hc).or (cr_max hc)
def rMinA (K : PySem.W.Frag) : List V → Hp → VK → Prop := fun xs H Q => (∃ i j, xs = [.int i, .int j] ∧ Q (.int (if j < i then j else i)) H) ∨ rMin K xs H Q
theorem call_minA (hc : X.calm = true) : CallR X (.builtin "min") (rMinA X.K) := (call_min2 hc).or (cr_min hc)
theorem cb_max : CbD X (rMaxA X.K) maxD := fun vs ds H Q z r h q => by
  unfold maxD at h
  split at h
  · obtain ⟨v, w, rfl, h1, h2⟩ := rds2 r
    cases h
    cases h1
    cases h2
    exact .inl ⟨_, _, rfl, q _ H [] (Same.refl H) (.int _) (fun _ h => nomatch h)⟩
  · obtain ⟨v, rfl, h1⟩ := rds1 r
    split at h
    · rename_i n ns e
      cases h
      cases h1 with
      | lst h1 r1 =>
        have ev := intsO_rd e r1
        subst ev
        refine .inr ⟨_, n :: ns, rfl, h1, by simp, fun m hm hy => ?_⟩
        obtain ⟨k1, k2⟩ := maxI_foldl ns n
        have em : m = maxL (n :: ns) := Int.le_antisymm (k2 m hm) (hy _ k1)
        rw [em]
        exact q _ H [] (Same.refl H) (.int _) (fun _ h => nomatch h)
    · cases h
  · cases h
theorem nx_max : NoEx1 maxD := fun ds c h => by unfold maxD at h; split at h <;> first | cases h | (split at h <;> cases h)
theorem cb_min : CbD X (rMinA X.K) minD := fun vs ds H Q z r h q => by
  unfold minD at h
  split at h
  · obtain ⟨v, w, rfl, h1, h2⟩ := rds2 r
    cases h
    cases h1
    cases h2
    exact .inl ⟨_, _, rfl, q _ H [] (Same.refl H) (.int _) (fun _ h => nomatch h)⟩
  · obtain ⟨v, rfl, h1⟩ := rds1 r
    split at h
    · rename_i n ns e
      cases h
      cases h1 with
      | lst h1 r1 =>
        have ev := intsO_rd e r1
        subst ev
        refine .inr ⟨_, n :: ns, rfl, h1, by simp, fun m hm hy => ?_⟩
        obtain ⟨k1, k2⟩ := minI_foldl ns n
        have em : m = minL (n :: ns) := Int.le_antisymm (hy _ k1) (k2 m hm)
        rw [em]
        exact q _ H [] (Same.refl H) (.int _) (fun _ h => nomatch h)
    · cases h
  · cases h
theorem nx_min : NoEx1 minD := fun ds c h => by unfold minD at h; split at h <;> first | cases h | (split at h <;> cases h)
theorem cb_sum : CbD X (rSum X.K) sumD := fun vs ds H Q z r h q => by
  unfold sumD at h
  split at h
  · obtain ⟨v, rfl, h1⟩ := rds1 r
    split at h
    · rename_i ns e
      cases h
      cases h1 with
      | lst h1 r1 =>
        have ev := intsO_rd e r1
        subst ev
        exact ⟨_, ns, rfl, h1, q _ H [] (Same.refl H) (.int _) (fun _ h => nomatch h)⟩
    · cases h
  · cases h
theorem nx_sum : NoEx1 sumD := fun ds c h => by unfold sumD at h; split at h <;> first | cases h | (split at h <;> cases h)
theorem cb_all : CbD X (rAll X.K) allD := fun vs ds H Q z r h q => by
  unfold allD at h
  split at h
  · obtain ⟨v, rfl, h1⟩ := rds1 r
    split at h
    · rename_i ns e
      cases h
      cases h1 with
      | lst h1 r1 =>
        have ev := bls_rd e r1
        subst ev
        exact ⟨_, ns, rfl, h1, q _ H [] (Same.refl H) (.bl _) (fun _ h => nomatch h)⟩
    · cases h
  · cases h
theorem nx_all : NoEx1 allD := fun ds c h => by unfold allD at h; split at h <;> first | cases h | (split at h <;> cases h)
theorem cb_any : CbD X (rAny X.K) anyD := fun vs ds H Q z r h q => by
  unfold anyD at h
  split at h
  · obtain ⟨v, rfl, h1⟩ := rds1 r
    split at h
    · rename_i ns e
      cases h
      cases h1 with
      | lst h1 r1 =>
        have ev := bls_rd e r1
        subst ev
        exact ⟨_, ns, rfl, h1, q _ H [] (Same.refl H) (.bl _) (fun _ h => nomatch h)⟩
    · cases h
  · cases h
theorem nx_any : NoEx1 anyD := fun ds c h => by unfold anyD at h; split at h <;> first | cases h | (split at h <;> cases h)
theorem cb_int : CbD X (fun xs H Q => (∃ i, xs = [.int i] ∧ Q (.int i) H) ∨ ∃ k, xs = [.bl k] ∧ Q (.int (if k then 1 else 0)) H) intD := fun vs ds H Q z r h q => by
  unfold intD at h
  split at h
  · obtain ⟨v, rfl, h1⟩ := rds1 r
    cases h
    cases h1
    exact .inl ⟨_, rfl, q _ H [] (Same.refl H) (.int _) (fun _ h => nomatch h)⟩
  · obtain ⟨v, rfl, h1⟩ := rds1 r
    cases h
    cases h1
    exact .inr ⟨_, rfl, q _ H [] (Same.refl H) (.int _) (fun _ h => nomatch h)⟩
  · cases h
theorem nx_int : NoEx1 intD := fun ds c h => by unfold intD at h; split at h <;> cases h
theorem cb_str : CbD X (fun xs H Q => ∃ i : Int, xs = [.int i] ∧ i.natAbs.log2 < 1920 ∧ Q (.str (toString i)) H) strD := fun vs ds H Q z r h q => by
  unfold strD at h
  split at h
  · obtain ⟨v, rfl, h1⟩ := rds1 r
    split at h
    · rename_i c
      cases h
      cases h1
      exact ⟨_, rfl, c, q _ H [] (Same.refl H) (.str _) (fun _ h => nomatch h)⟩
    · cases h
  · cases h
theorem nx_str : NoEx1 strD := fun ds c h => by unfold strD at h; split at h <;> first | cases h | (split at h <;> cases h)
theorem cb_list : CbD X (fun xs H Q => ∃ p ys, xs = [.ref p] ∧ (SqL X.K H p ys ∨ SqT X.K H p ys) ∧ ∀ l, H l = none → Q (.ref l) (upd H l (.lst ys))) listD := fun vs ds H Q z r h q => by
  unfold listD at h
  split at h
  · obtain ⟨v, rfl, h1⟩ := rds1 r
    split at h
    · rename_i c
      cases h
      cases h1 with
      | lst h1 r1 => exact ⟨_, _, rfl, .inl h1, fun l hl => q _ _ [l] (new_same hl) (fu_new_lst hl r1 c) fun a ha => by rw [List.mem_singleton.mp ha]; exact hl⟩
    · cases h
  · obtain ⟨v, rfl, h1⟩ := rds1 r
    split at h
    · rename_i c
      cases h
      cases h1 with
      | tup h1 r1 => exact ⟨_, _, rfl, .inr h1.sq, fun l hl => q _ _ [l] (new_same hl) (fu_new_lst hl r1 c) fun a ha => by rw [List.mem_singleton.mp ha]; exact hl⟩
    · cases h
  · cases h
theorem nx_list : NoEx1 listD := fun ds c h => by unfold listD at h; split at h <;> first | cases h | (split at h <;> cases h)
theorem cb_tuple : CbD X (fun xs H Q => ∃ p ys, xs = [.ref p] ∧ ((SqL X.K H p ys ∧ ∀ l, H l = none → Q (.ref l) (upd H l (.tup ys))) ∨ (SqT X.K H p ys ∧ Q (.ref p) H))) tupleD := fun vs ds H Q z r h q => by
  unfold tupleD at h
  split at h
  · obtain ⟨v, rfl, h1⟩ := rds1 r
    split at h
    · rename_i c
      cases h
      cases h1 with
      | lst h1 r1 => exact ⟨_, _, rfl, .inl ⟨h1, fun l hl => q _ _ [] (new_same hl) (fu_new_tup hl r1 c) (fun _ h => nomatch h)⟩⟩
    · cases h
  · obtain ⟨v, rfl, h1⟩ := rds1 r
    split at h
    · rename_i c
      cases h
      cases h1 with
      | tup h1 r1 => exact ⟨_, _, rfl, .inr ⟨h1.sq, q _ H [] (Same.refl H) (.tup h1 (r1.fu c)) (fun _ h => nomatch h)⟩⟩
    · cases h
  · cases h
theorem nx_tuple : NoEx1 tupleD := fun ds c h => by unfold tupleD at h; split at h <;> first | cases h | (split at h <;> cases h)
theorem cb_divmod : CbD X (fun xs H Q => ∃ i j, xs = [.int i, .int j] ∧ CDiv i j ∧ ∀ p, H p = none → Q (.ref p) (upd H p (.tup [.int (i / j), .int (i % j)]))) divmodD := fun vs ds H Q z r h q => by
  unfold divmodD at h
  split at h
  · obtain ⟨v, w, rfl, h1, h2⟩ := rds2 r
    split at h
    · rename_i c
      cases h
      cases h1
      cases h2
      exact ⟨_, _, rfl, c, fun p hp => q _ _ [] (new_same hp) (fu_new_tup hp (.cons (.int _) (.cons (.int _) .nil)) rfl) (fun _ h => nomatch h)⟩
    · cases h
  · cases h
theorem nx_divmod : NoEx1 divmodD := fun ds c h => by unfold divmodD at h; split at h <;> first | cases h | (split at h <;> cases h)
end

/-! ### isinstance(x, T), T a built-in class -/
def clsD : D → String
  | .non => "NoneType"
  | .bl _ => "bool"
  | .int _ => "int"
  | .str _ => "str"
  | .lst _ => "list"
  | .fz _ => "list"
  | .tup _ => "tuple"
  | .dic _ _ _ => "dict"
  | .fn _ => ""
  | .exc _ _ => ""
  | .cl _ _ => ""
  | .obj _ _ _ => ""
def isT (T : String) (d : D) : R D := match d with
  | .fn _ => .st
  | .exc _ _ => .st
  | .cl _ _ => .st
  | .obj _ _ _ => .st
  | d => .ok (.bl (T == clsD d || (T == "int" && clsD d == "bool")))
def isiE (T : String) (f : Env → R D) (ρ : Env) : R D := (f ρ).bind (isT T)
def kinds5 (T : String) : Prop := ∀ c ∈ ["NoneType", "bool", "int", "str", "list", "tuple", "dict"], kitB c T = some (T == c || (T == "int" && c == "bool"))
theorem Rd.tyx {K : PySem.W.Frag} {H : Hp} {v : V} {d : D} (r : Rd K H v d) : (isT "int" d = .st ∧ ∀ T, isT T d = .st) ∨ TyX K H v (.type (clsD d)) := by
  cases r with
  | non => exact .inr (.base .non)
  | bl b => exact .inr (.base (.bl b))
  | int i => exact .inr (.base (.int i))
  | str x => exact .inr (.base (.str x))
  | fn n => exact .inl ⟨rfl, fun _ => rfl⟩
  | exc c a => exact .inl ⟨rfl, fun _ => rfl⟩
  | cl _ _ => exact .inl ⟨rfl, fun _ => rfl⟩
  | obj _ _ _ _ _ => exact .inl ⟨rfl, fun _ => rfl⟩
  | lst h _ =>
    rcases h with (h | ⟨o, h⟩) | ⟨o, its, n, h1, h2, _⟩
    · exact .inr (.base (.lst h))
    · exact .inr (.base (.frz h))
    · exact .inr (.kList h1 h2)
  | fz h _ => exact .inr (.base (.frz h))
  | tup h _ => exact h.elim (fun h => .inr (.base (.tup h))) fun ⟨_, _, _, h1, h2, _⟩ => .inr (.kTuple h1 h2)
  | dk h _ _ => exact .inr (.base (.dK h))
  | dt h _ _ => exact .inr (.base (.dT h))
section
variable {X : Cx} {W : WX} {a : Expr} {f : Env → R D} {p p2 pos : Pos} {T : String} {x : Str}
theorem vg_isi (k5 : kinds5 T) (hg : Gl X "isinstance") (hm : X.mg "isinstance" = none) (hT : PE X (.Name x p2) (tC (.ty T))) (ha : VE X W a f)
    (he : starEach [a, .Name x p2] X.env = (false, eval a X.env) :: starEach [.Name x p2] X.env := by rfl) (he2 : starEach [.Name x p2] X.env = [(false, eval (.Name x p2) X.env)] := by rfl) (hpl : (backTo pos (starEach [.Name x p2] X.env)).any (·.1) = false := by rfl) : VG X W (.Call (.Name "isinstance" p) [a, .Name x p2] [] pos) (isiE T f) :=
  ⟨peW (pe_callB call_isi hg hm boot_isinstance (pa_cons ha.pe (pa_cons hT pa_nil he2) he) (by decide) (by decide) he hpl) fun σ H Q ⟨ρ, re, o⟩ => ⟨ρ, re, (Out.bind o).mono fun d _ q v H1 s1 r1 => by
    show rIsi X.K [v, .ty T] H1 Q
    rcases r1.tyx with ⟨_, e⟩ | t
    · rw [e] at q
      exact q.elim
    · have nf : isT T d ≠ .st := fun z => by rw [z] at q; exact q.elim
      have ek : kitB (clsD d) T = some (T == clsD d || (T == "int" && clsD d == "bool")) := by
        refine k5 _ ?_
        cases d with
        | fn a => exact absurd rfl nf
        | exc c a => exact absurd rfl nf
        | cl f F => exact absurd rfl nf
        | obj c a b => exact absurd rfl nf
        | _ => simp [clsD]
      refine ⟨v, .ty T, _, _, _, rfl, .ty T, t, kit_ty ek, ?_⟩
      have ei : isT T d = .ok (.bl (T == clsD d || (T == "int" && clsD d == "bool"))) := by
        cases d with
        | fn a => exact absurd rfl nf
        | exc c a => exact absurd rfl nf
        | cl f F => exact absurd rfl nf
        | obj c a b => exact absurd rfl nf
        | _ => rfl
      rw [ei] at q
      exact q _ H1 [] s1 (.bl _) (fun _ h => nomatch h)⟩⟩
end
theorem k5_int : kinds5 "int" := by unfold kinds5; decide +kernel
theorem k5_bool : kinds5 "bool" := by unfold kinds5; decide +kernel
theorem k5_str : kinds5 "str" := by unfold kinds5; decide +kernel
theorem k5_list : kinds5 "list" := by unfold kinds5; decide +kernel
theorem k5_tuple : kinds5 "tuple" := by unfold kinds5; decide +kernel

/-! ### calls of the text's own defs -/
/-- a def that is a function of data: what it hands back is new -/
def spF (K : PySem.W.Frag) (mg : Str → Option Value) (n : Nat) (m : List D → R D) : Sp := fun vs H Q E => vs.length = n ∧ TabsL H ∧ ∃ ds, Rds K H vs ds ∧ match m ds with
  | .ok d => ∀ v H' A, Same H H' → Fu K H' v d A → (∀ a ∈ A, H a = none) → Q v H'
  | .ex c => ∃ C, mg c = some (.ref C) ∧ ∀ H', Same H H' → E (.ref C) none H'
  | .st => False
section
variable {X : Cx} {W : WX} {k n : Nat} {f : Addr} {fd : FuncData} {ps : List Str} {m : List D → R D} {x : Str} {p pos : Pos} {e : Expr} {es : List Expr} {fs : Env → R (List D)}
def callF (m : List D → R D) (fs : Env → R (List D)) (ρ : Env) : R D := (fs ρ).bind m
theorem vg_call (F : FnOk X.prog X.w X.K X.mg X.base (L2.CX X.prog X.w) k f fd ps (spF X.K X.mg n m)) (hr : Room k X.A) (tk : Takes X W) (hg : Gl X x) (hm : X.mg x = some (.ref f)) (hk : PySem.W.keepIn X.K (.ref f) = true) (hb : Binds X.K fd ps [])
    (ha : VA X W (e :: es) fs) (hl : LenA fs n) (hdb : (x == ("__debug__" : Str)) = false := by decide) (he : starEach (e :: es) X.env = (false, eval e X.env) :: starEach es X.env := by rfl) (hpl : (backTo pos (starEach es X.env)).any (·.1) = false := by rfl) :
    VG X W (.Call (.Name x p) (e :: es) [] pos) (callF m fs) := ⟨peW (pe_callS F hr hg hm hk hb (fun σ => passAt tk σ) ha.pa hdb he hpl) fun σ H Q ⟨ρ, re, o⟩ => ⟨ρ, re, (Out.bind o).mono fun ds hd q vs H1 s1 r1 => by
  refine ⟨r1.length.trans (hl ρ ds hd), re.tabs.up s1, ds, r1, ?_⟩
  cases hz : m ds with
  | ok d => rw [hz] at q; exact fun v H' A s2 f2 n2 => q v H' A (s1.trans s2) f2 fun a z => s1.free (n2 a z)
  | ex c => rw [hz] at q; obtain ⟨C, h1, h2⟩ := q; exact ⟨C, h1, fun H' s2 => h2 H' (s1.trans s2)⟩
  | st => rw [hz] at q; exact q.elim⟩⟩
end
end Vs

namespace Vs
open PySem PySem.Spec PyProof.Rows L2

/-! ### what never changes -/
section
variable {K : PySem.W.Frag} {H H' S : Hp}
mutual
theorem Fu.soft : ∀ {v : V} {d : D} {A : List Addr}, Fu K H v d A → ∀ a ∈ A, ∃ o, H a = some o ∧ ¬ Stt o
  | _, _, _, .non, _, h => nomatch h
  | _, _, _, .bl b, _, h => nomatch h
  | _, _, _, .int i, _, h => nomatch h
  | _, _, _, .str x, _, h => nomatch h
  | _, _, _, .fn n, _, h => nomatch h
  | _, _, _, .exc c a, _, h => nomatch h
  | _, _, _, .cl _ _, _, h => nomatch h
  | _, _, _, .lst h r n, a, m => by
    rcases List.mem_cons.mp m with e | m
    · exact ⟨.lst _, e ▸ h, fun z => (show False from z)⟩
    · exact Fus.soft r a m
  | _, _, _, .fz h r, a, m => nomatch m
  | _, _, _, .tup h r, a, m => Fus.soft r a m
  | _, _, _, .dk h q r n, a, m => by
    rcases List.mem_cons.mp m with e | m
    · exact ⟨.dK _, e ▸ h, fun z => (show False from z)⟩
    · exact Fus.soft r a m
  | _, _, _, .dt h q r n, a, m => by
    rcases List.mem_cons.mp m with e | m
    · exact ⟨.dT _, e ▸ h, fun z => (show False from z)⟩
    · exact Fus.soft r a m
  | _, _, _, .obj h h2 nk q r n n2 n3, a, m => by
    rcases List.mem_cons.mp m with e | m
    · exact ⟨.ins _ _ _, e ▸ h, fun z => (show False from z)⟩
    · rcases List.mem_cons.mp m with e | m
      · exact ⟨.own _, e ▸ h2, fun z => (show False from z)⟩
      · exact Fus.soft r a m
theorem Fus.soft : ∀ {vs : List V} {ds : List D} {A : List Addr}, Fus K H vs ds A → ∀ a ∈ A, ∃ o, H a = some o ∧ ¬ Stt o
  | _, _, _, .nil, _, h => nomatch h
  | _, _, _, .cons h r _, a, m => by
    rcases List.mem_append.mp m with m | m
    · exact Fu.soft h a m
    · exact Fus.soft r a m
end
open Classical in
/-- S, and what of H never changes, and what stands at A -/
noncomputable def ext (S H : Hp) (A : List Addr) : Hp := fun a => match S a with
  | some o => some o
  | none => match H a with
    | some o => if (Stt o ∧ NTb o) ∨ a ∈ A then some o else none
    | none => none
theorem ext_s (A : List Addr) : Same S (ext S H A) := Same.of fun b o e => by unfold ext; rw [e]
theorem ext_or {A : List Addr} {b : Addr} {o : HO} (e : ext S H A b = some o) : S b = some o ∨ (S b = none ∧ H b = some o ∧ ((Stt o ∧ NTb o) ∨ b ∈ A)) := by
  unfold ext at e
  cases q : S b with
  | some u => rw [q] at e; cases e; exact .inl rfl
  | none =>
    rw [q] at e
    cases q' : H b with
    | some u =>
      rw [q'] at e
      simp only at e
      split at e
      · rename_i c
        cases e
        exact .inr ⟨rfl, rfl, c⟩
      · cases e
    | none => rw [q'] at e; cases e
theorem ext_h (s : Same S H) (A : List Addr) : Same (ext S H A) H := ⟨fun b o e n => by
  rcases ext_or e with q | ⟨_, q, _⟩
  · exact s.mv q n
  · exact q, fun b ps e => by
  rcases ext_or e with q | ⟨_, q, _⟩
  · exact s.tab b ps q
  · exact ⟨#[], by rw [q]; simp, MoreOk.nil _⟩⟩
theorem MoreOk.put {H : Hp} {q : Addr} {o' : HO} {more : Array Value} (m : MoreOk H more) (hq : ∀ o, H q = some o → ¬ Stt o) : MoreOk (upd H q o') more := ⟨m.1, fun pos cv hc => by
  obtain ⟨c, e, h⟩ := m.2 pos cv hc
  refine ⟨c, e, ?_⟩
  rw [upd_ne fun (z : c = q) => hq (LamX.CodeO c (nmL pos.line pos.col)) (z ▸ h) True.intro]
  exact h⟩
theorem Same.put {q : Addr} {o' : HO} (s : Same S H) (h : S q = none) (hq : ∀ o, H q = some o → ¬ Stt o) : Same S (upd H q o') := ⟨fun b o e n => by
  rw [upd_ne (fun z => by rw [z, h] at e; cases e)]
  exact s.mv e n, fun b ps e => by
  obtain ⟨more, e1, k⟩ := s.tab b ps e
  exact ⟨more, by rw [upd_ne (fun z => by rw [z, h] at e; cases e)]; exact e1, k.put hq⟩⟩
theorem same_cut {A : List Addr} {ι : ∀ a, Decidable (a ∈ A)} : Same (fun a => @ite _ (a ∈ A) (ι a) none (H a)) H := Same.of fun a o e => by
  have e : @ite _ (a ∈ A) (ι a) none (H a) = some o := e
  split at e
  · cases e
  · exact e
theorem same_cutS {A : List Addr} {ι : ∀ a, Decidable (a ∈ A)} (s : Same S H) (n : ∀ a ∈ A, S a = none) (soft : ∀ a ∈ A, ∀ o, H a = some o → ¬ Stt o) : Same S (fun a => @ite _ (a ∈ A) (ι a) none (H a)) := by
  have k : ∀ b o, S b = some o → ∀ u, H b = some u → @ite _ (b ∈ A) (ι b) none (H b) = some u := fun b o e u h => by
    rw [if_neg fun z => by rw [n b z] at e; cases e]
    exact h
  refine ⟨fun b o e nt => k b o e _ (s.mv e nt), fun b ps e => ?_⟩
  obtain ⟨more, e1, m⟩ := s.tab b ps e
  refine ⟨more, k b _ e _ e1, m.1, fun pos cv hc => ?_⟩
  obtain ⟨c, ec, hcd⟩ := m.2 pos cv hc
  refine ⟨c, ec, ?_⟩
  show @ite _ (c ∈ A) (ι c) none (H c) = _
  rw [if_neg fun z => soft c z _ hcd True.intro]
  exact hcd
theorem Same.lock {A : List Addr} (s : Same S H) (off : ∀ a ∈ A, S a = none) (k1 : ∀ a, a ∉ A → H' a = H a) (hT : ∀ b o, Stt o → NTb o → H b = some o → H' b = some o) : Same S H' := ⟨fun b o e n => by
  rw [k1 b fun z => by rw [off b z] at e; cases e]
  exact s.mv e n, fun b ps e => by
  obtain ⟨more, e1, m⟩ := s.tab b ps e
  refine ⟨more, by rw [k1 b fun z => by rw [off b z] at e; cases e]; exact e1, m.1, fun pos cv hc => ?_⟩
  obtain ⟨c, ec, h⟩ := m.2 pos cv hc
  exact ⟨c, ec, hT _ _ True.intro True.intro h⟩⟩
theorem ext_none {A : List Addr} {a : Addr} (h : S a = none) (n : a ∉ A) (t : ∀ o, H a = some o → ¬ Stt o) : ext S H A a = none := by
  unfold ext
  rw [h]
  cases q : H a with
  | some o =>
    simp only
    rw [if_neg fun z => z.elim (fun z => t o q z.1) n]
  | none => rfl
theorem same_at (s : Same S H) {a : Addr} {o u : HO} (h : H a = some o) (n : NTb o) (q : S a = some u) : u = o := by
  by_cases m : NTb u
  · have := s.mv q m
    rw [h] at this
    exact (Option.some.inj this).symm
  · cases u with
    | tbl ps =>
      obtain ⟨more, e1, _⟩ := s.tab _ _ q
      rw [h] at e1
      cases e1
      exact n.elim
    | _ => exact absurd True.intro m
theorem ext_stt (s : Same S H) {A : List Addr} {a : Addr} {o : HO} (h : H a = some o) (t : Stt o) (n : NTb o := by exact True.intro) : ext S H A a = some o := by
  unfold ext
  cases q : S a with
  | some u => rw [same_at s h n q]
  | none =>
    rw [h]
    simp only
    rw [if_pos (.inl ⟨t, n⟩)]
theorem ext_at (s : Same S H) {A : List Addr} {a : Addr} {o : HO} (h : H a = some o) (t : a ∈ A) (n : NTb o := by exact True.intro) : ext S H A a = some o := by
  unfold ext
  cases q : S a with
  | some u => rw [same_at s h n q]
  | none =>
    rw [h]
    simp only
    rw [if_pos (.inr t)]
theorem ext_seqT (s : Same S H) {A : List Addr} {a : Addr} {xs : List V} (h : TpT K H a xs) : TpT K (ext S H A) a xs := h.imp (fun q => ext_stt s q trivial) id
mutual
theorem Fu.ext (s : Same S H) {B : List Addr} : ∀ {v : V} {d : D} {A : List Addr}, Fu K H v d A → (∀ a ∈ A, a ∈ B) → Rd K (ext S H B) v d
  | _, _, _, .non, _ => .non
  | _, _, _, .bl b, _ => .bl b
  | _, _, _, .int i, _ => .int i
  | _, _, _, .str x, _ => .str x
  | _, _, _, .fn n, _ => .fn n
  | _, _, _, .exc c a, _ => .exc c a
  | _, _, _, .cl h1 h2, _ => .cl (ext_stt s h1 True.intro) (ext_stt s h2 True.intro)
  | _, _, _, .lst h r n, k => .lst (SqL.of (ext_at s h (k _ List.mem_cons_self))) (Fus.ext s r fun a m => k a (List.mem_cons_of_mem _ m))
  | _, _, _, .fz h r, k => .fz (ext_stt s h trivial) (Fus.ext s r fun a m => nomatch m)
  | _, _, _, .tup h r, k => .tup (ext_seqT s h) (Fus.ext s r k)
  | _, _, _, .dk h q r n, k => .dk (ext_at s h (k _ List.mem_cons_self)) q (Fus.ext s r fun a m => k a (List.mem_cons_of_mem _ m))
  | _, _, _, .dt h q r n, k => .dt (ext_at s h (k _ List.mem_cons_self)) q (Fus.ext s r fun a m => k a (List.mem_cons_of_mem _ m))
  | _, _, _, .obj h h2 nk q r n n2 n3, k => .obj (ext_at s h (k _ List.mem_cons_self)) (ext_at s h2 (k _ (List.mem_cons_of_mem _ List.mem_cons_self))) nk q (Fus.ext s r fun a m => k a (List.mem_cons_of_mem _ (List.mem_cons_of_mem _ m)))
theorem Fus.ext (s : Same S H) {B : List Addr} : ∀ {vs : List V} {ds : List D} {A : List Addr}, Fus K H vs ds A → (∀ a ∈ A, a ∈ B) → Rds K (ext S H B) vs ds
  | _, _, _, .nil, _ => .nil
  | _, _, _, .cons h r _, k => .cons (Fu.ext s h fun a m => k a (List.mem_append_left _ m)) (Fus.ext s r fun a m => k a (List.mem_append_right _ m))
end
end

/-! ### the state between two statements -/
/-- S: what stays; F i: the lists of slot i, its own (i in own) -/
structure Stx (own : List Nat) (K : PySem.W.Frag) (S : Hp) (F : Nat → List Addr) (ρ : Env) (σ : L2.St) (H : Hp) : Prop where
  len : ρ.length = σ.length
  sub : Same S H
  cl : ∀ a o, H a = some o → Stt o → NTb o → S a = some o
  tabs : TabsL S
  val : ∀ (i : Nat) (d : D), ρ[i]? = some (some d) → ∃ v, σ[i]? = some (some v) ∧ (i ∈ own → Fu K H v d (F i)) ∧ (i ∉ own → Rd K S v d)
  out : ∀ i ∈ own, ∀ a ∈ F i, S a = none ∧ ∃ o, H a = some o ∧ ¬ Stt o
  dis : ∀ i ∈ own, ∀ j ∈ own, i ≠ j → ∀ a ∈ F i, a ∉ F j
def Sta (own : List Nat) (B : Hp) (K : PySem.W.Frag) (ρ : Env) (σ : L2.St) (H : Hp) : Prop := ∃ S F, Same B S ∧ Stx own K S F ρ σ H
section
variable {K : PySem.W.Frag} {H H' S B B' : Hp} {own own' : List Nat} {F : Nat → List Addr} {ρ : Env} {σ : L2.St}
theorem Stx.env (h : Stx own K S F ρ σ H) : REnv K ρ σ H := ⟨h.len, fun i d q => by
  obtain ⟨v, h1, h2, h3⟩ := h.val i d q
  by_cases m : i ∈ own
  · exact ⟨v, h1, (h2 m).rd⟩
  · exact ⟨v, h1, (h3 m).mono h.sub⟩, h.tabs.up h.sub⟩
theorem Sta.env (h : Sta own B K ρ σ H) : REnv K ρ σ H := let ⟨_, _, _, x⟩ := h; x.env
theorem Sta.base (h : Sta own B K ρ σ H) : Same B H := let ⟨_, _, b, x⟩ := h; b.trans x.sub
theorem Sta.down (h : Sta own B' K ρ σ H) (s : Same B B') : Sta own B K ρ σ H := let ⟨S, F, b, x⟩ := h; ⟨S, F, s.trans b, x⟩
/-- the heap has grown -/
theorem Stx.grow (h : Stx own K S F ρ σ H) (s : Same H H') {A : List Addr} (hA : ∀ a ∈ A, H a = none) : Stx own K (ext S H' A) F ρ σ H' := by
  have sS : Same S H' := h.sub.trans s
  refine ⟨h.len, ext_h sS A, fun a o e t n => ext_stt sS e t n, h.tabs.up (ext_s _), fun i d q => ?_, fun i m a ha => ?_, h.dis⟩
  · obtain ⟨v, h1, h2, h3⟩ := h.val i d q
    exact ⟨v, h1, fun m => (h2 m).same s, fun m => (h3 m).mono (ext_s A)⟩
  · obtain ⟨h1, o, h2, h3⟩ := h.out i m a ha
    refine ⟨ext_none h1 (fun z => ?_) (fun o' e => ?_), o, s.mv h2 (nst h3), h3⟩
    · rw [hA a z] at h2; cases h2
    · rw [s.mv h2 (nst h3)] at e; cases e; exact h3
theorem Sta.grow (h : Sta own B K ρ σ H) (s : Same H H') : Sta own B K ρ σ H' :=
  let ⟨_, _, b, x⟩ := h
  ⟨_, _, b.trans (ext_s []), x.grow s (fun _ z => nomatch z)⟩
theorem get_set {α : Type} {l : List α} {i j : Nat} {x y : α} (h : (l.set i x)[j]? = some y) : (j = i ∧ x = y ∧ i < l.length) ∨ (j ≠ i ∧ l[j]? = some y) := by
  rw [List.getElem?_set] at h
  by_cases e : i = j
  · subst e
    rw [if_pos rfl] at h
    split at h
    · rename_i hl
      exact .inl ⟨rfl, Option.some.inj h, hl⟩
    · cases h
  · rw [if_neg e] at h
    exact .inr ⟨Ne.symm e, h⟩
/-- a slot takes a new thing, its own -/
theorem Stx.put (h : Stx own K S F ρ σ H) {v : V} {d : D} {A : List Addr} (s : Same H H') (f : Fu K H' v d A) (hA : ∀ a ∈ A, H a = none) (i : Nat) :
    Stx (i :: own) K (ext S H' []) (fun j => if j = i then A else F j) (ρ.set i (some d)) (σ.set i (some v)) H' := by
  have g := h.grow s (A := []) (fun _ z => nomatch z)
  have sS : Same S H' := h.sub.trans s
  refine ⟨by rw [List.length_set, List.length_set]; exact h.len, g.sub, g.cl, g.tabs, fun j e q => ?_, fun j m a ha => ?_, fun j mj k mk ne a ha => ?_⟩
  · rcases get_set q with ⟨rfl, e1, hl⟩ | ⟨ne, q⟩
    · cases e1
      refine ⟨v, ?_, fun _ => ?_, fun m => absurd List.mem_cons_self m⟩
      · rw [List.getElem?_set_self (by rw [← h.len]; exact hl)]
      · rw [if_pos rfl]; exact f
    · obtain ⟨u, h1, h2, h3⟩ := g.val j e q
      refine ⟨u, by rw [List.getElem?_set_ne (Ne.symm ne)]; exact h1, fun m => ?_, fun m => h3 fun z => m (List.mem_cons_of_mem _ z)⟩
      rw [if_neg ne]
      exact h2 ((List.mem_cons.mp m).resolve_left ne)
  · by_cases e : j = i
    · rw [if_pos e] at ha
      obtain ⟨o, h1, h2⟩ := f.soft a ha
      refine ⟨ext_none (h.sub.free (hA a ha)) (fun z => nomatch z) (fun o' e' => ?_), o, h1, h2⟩
      rw [h1] at e'; cases e'; exact h2
    · rw [if_neg e] at ha
      exact g.out j ((List.mem_cons.mp m).resolve_left e) a ha
  · intro hk
    by_cases ej : j = i
    · rw [if_pos ej] at ha
      have ek : k ≠ i := fun z => ne (ej.trans z.symm)
      rw [if_neg ek] at hk
      obtain ⟨_, o, h1, _⟩ := h.out k ((List.mem_cons.mp mk).resolve_left ek) a hk
      rw [hA a ha] at h1; cases h1
    · rw [if_neg ej] at ha
      by_cases ek : k = i
      · rw [if_pos ek] at hk
        obtain ⟨_, o, h1, _⟩ := h.out j ((List.mem_cons.mp mj).resolve_left ej) a ha
        rw [hA a hk] at h1; cases h1
      · rw [if_neg ek] at hk
        exact h.dis j ((List.mem_cons.mp mj).resolve_left ej) k ((List.mem_cons.mp mk).resolve_left ek) ne a ha hk
/-- a slot that owns nothing takes a thing that stays -/
theorem Stx.lay (h : Stx own K S F ρ σ H) {v : V} {d : D} {i : Nat} (hi : i ∉ own) (r : Rd K S v d) : Stx own K S F (ρ.set i (some d)) (σ.set i (some v)) H := by
  refine ⟨by rw [List.length_set, List.length_set]; exact h.len, h.sub, h.cl, h.tabs, fun j e q => ?_, h.out, h.dis⟩
  rcases get_set q with ⟨rfl, e1, hl⟩ | ⟨ne, q⟩
  · cases e1
    exact ⟨v, by rw [List.getElem?_set_self (by rw [← h.len]; exact hl)], fun m => absurd m hi, fun _ => r⟩
  · obtain ⟨u, h1, h2⟩ := h.val j e q
    exact ⟨u, by rw [List.getElem?_set_ne (Ne.symm ne)]; exact h1, h2⟩
/-- fewer slots own: what they had stays from now on -/
theorem Stx.weak (h : Stx own K S F ρ σ H) (w : ∀ i ∈ own', i ∈ own) : Sta own' S K ρ σ H := by
  refine ⟨ext S H ((own.filter (fun i => decide (i ∉ own'))).flatMap F), F, ext_s _, h.len, ext_h h.sub _, fun a o e t n => ext_stt h.sub e t n, h.tabs.up (ext_s _), fun i d q => ?_, fun i m a ha => ?_, fun i mi j mj => h.dis i (w i mi) j (w j mj)⟩
  · obtain ⟨v, h1, h2, h3⟩ := h.val i d q
    refine ⟨v, h1, fun m => h2 (w i m), fun m => ?_⟩
    by_cases mo : i ∈ own
    · exact (h2 mo).ext h.sub fun a ha => List.mem_flatMap.mpr ⟨i, List.mem_filter.mpr ⟨mo, by simpa using m⟩, ha⟩
    · exact (h3 mo).mono (ext_s _)
  · obtain ⟨h1, o, h2, h3⟩ := h.out i (w i m) a ha
    refine ⟨ext_none h1 (fun z => ?_) (fun o' e => ?_), o, h2, h3⟩
    · obtain ⟨j, hj, hz⟩ := List.mem_flatMap.mp z
      obtain ⟨hj1, hj2⟩ := List.mem_filter.mp hj
      have hj2 : j ∉ own' := by simpa using hj2
      exact h.dis i (w i m) j hj1 (fun e => hj2 (e ▸ m)) a ha hz
    · rw [h2] at e; cases e; exact h3
theorem Sta.weak (h : Sta own B K ρ σ H) (w : ∀ i ∈ own', i ∈ own) : Sta own' B K ρ σ H :=
  let ⟨_, _, b, x⟩ := h
  (x.weak w).down b
end

/-! ### statements -/
inductive Sr where
  | st | nx (ρ : Env) | rt (d : D) | bk (ρ : Env) | ct (ρ : Env) | ex (c : Str) (ρ : Env) | rb (d : D) (ρ : Env)
/-- what is asked of a statement's ends: the slots that own at break and continue, at a return of what was lent, where something is raised; the slots that keep their thing -/
structure Ol where
  l : List Nat := []
  r : List Nat := []
  e : List Nat := []
  P : Nat → Option V := fun _ => none
abbrev nol : Ol := {}
def Pin (P : Nat → Option V) (σ : L2.St) : Prop := ∀ i v, P i = some v → σ[i]? = some (some v)
theorem Pin.set {P : Nat → Option V} {σ : L2.St} {i : Nat} {x : Option V} (h : Pin P σ) (hi : P i = none) : Pin P (σ.set i x) := fun j v e => by
  rw [List.getElem?_set_ne fun z => by rw [← z, hi] at e; cases e]
  exact h j v e
theorem Pin.keep {P : Nat → Option V} {σ σ' : L2.St} (h : Pin P σ) (k : ∀ j, P j ≠ none → σ'[j]? = σ[j]?) : Pin P σ' := fun j v e => by
  rw [k j fun z => by rw [z] at e; cases e]
  exact h j v e
theorem Pin.nol {σ : L2.St} : Pin nol.P σ := fun _ _ e => nomatch e
/-- the state, and a new value beside it -/
def StaV (own : List Nat) (B : Hp) (K : PySem.W.Frag) (ρ : Env) (σ : L2.St) (H : Hp) (v : V) (d : D) : Prop := ∃ S F A, Same B S ∧ Stx own K S F ρ σ H ∧ Fu K H v d A ∧ (∀ a ∈ A, S a = none) ∧ ∀ j ∈ own, ∀ a ∈ A, a ∉ F j
theorem StaV.down {own : List Nat} {B B' : Hp} {K : PySem.W.Frag} {ρ : Env} {σ : L2.St} {H : Hp} {v : V} {d : D} (h : StaV own B' K ρ σ H v d) (s : Same B B') : StaV own B K ρ σ H v d := let ⟨S, F, A, b, x⟩ := h; ⟨S, F, A, s.trans b, x⟩
/-- a new value beside a state -/
theorem Sta.staV {own : List Nat} {B : Hp} {K : PySem.W.Frag} {ρ : Env} {σ : L2.St} {H H' : Hp} {v : V} {d : D} {A : List Addr} (h : Sta own B K ρ σ H) (s : Same H H') (f : Fu K H' v d A) (n : ∀ a ∈ A, H a = none) : StaV own B K ρ σ H' v d := by
  obtain ⟨S, F, b, y⟩ := h
  refine ⟨_, F, A, b.trans (ext_s []), y.grow s (A := []) (fun _ z => nomatch z), f, fun a ha => ?_, fun j m a ha z => ?_⟩
  · obtain ⟨o, h1, h2⟩ := f.soft a ha
    exact ext_none (y.sub.free (n a ha)) (fun z => nomatch z) (fun o' e => by rw [h1] at e; cases e; exact h2)
  · obtain ⟨_, o, e, _⟩ := y.out j m a z
    rw [n a ha] at e; cases e
def bindS {α : Type} (r : R α) (ρ : Env) (k : α → Sr) : Sr := match r with
  | .ok a => k a
  | .ex c => .ex c ρ
  | .st => .st
@[simp] theorem bindS_ok {α : Type} (a : α) (ρ : Env) (k : α → Sr) : bindS (.ok a) ρ k = k a := rfl
@[simp] theorem bindS_ex {α : Type} (c : Str) (ρ : Env) (k : α → Sr) : bindS (.ex c) ρ k = .ex c ρ := rfl
@[simp] theorem bindS_st {α : Type} (ρ : Env) (k : α → Sr) : bindS (.st) ρ k = .st := rfl
def SEnd (K : PySem.W.Frag) (mg : Str → Option Value) (W : WX) (own : List Nat) (ol : Ol) (B : Hp) (D : Ends) : Sr → Prop
  | .st => False
  | .nx ρ => ∀ σ H, Sta own B K ρ σ H → Pin ol.P σ → D.nx σ H
  | .rt d => ∀ v H A, Same B H → Fu K H v d A → (∀ a ∈ A, B a = none) → D.rt v H
  | .rb d ρ => ∀ v σ H, StaV ol.r B K ρ σ H v d → Pin ol.P σ → D.rt v H
  | .bk ρ => ∀ σ H, Sta ol.l B K ρ σ H → Pin ol.P σ → D.bk σ H
  | .ct ρ => ∀ σ H, Sta ol.l B K ρ σ H → Pin ol.P σ → D.ct σ H
  | .ex c ρ => ∃ C, mg c = some (.ref C) ∧ ∀ σ H, Sta ol.e B K ρ σ H → Pin ol.P σ → W (.ref C) none σ H
def tS (K : PySem.W.Frag) (mg : Str → Option Value) (W : WX) (own own' : List Nat) (ol : Ol) (b : Env → Sr) : TS := fun D σ H => ∃ B ρ, Sta own B K ρ σ H ∧ Pin ol.P σ ∧ SEnd K mg W own' ol B D (b ρ)
structure VS (X : Cx) (W : WX) (own own' : List Nat) (ol : Ol) (st : Stmt) (b : Env → Sr) : Prop where
  ps : PS X st (tS X.K X.mg W own own' ol b)
structure VSs (X : Cx) (W : WX) (own own' : List Nat) (ol : Ol) (st : List Stmt) (b : Env → Sr) : Prop where
  ps : PSs X st (tS X.K X.mg W own own' ol b)
section
variable {K : PySem.W.Frag} {mg : Str → Option Value} {W : WX} {own own' own'' : List Nat} {ol : Ol} {B B' : Hp} {D E : Ends} {r : Sr}
theorem SEnd.up (h : SEnd K mg W own ol B D r) (s : Same B B') : SEnd K mg W own ol B' D r := by
  cases r with
  | st => exact h
  | nx ρ => exact fun σ H x => h σ H (x.down s)
  | rt d => exact fun v H A b f n => h v H A (s.trans b) f fun a m => s.free (n a m)
  | rb d ρ => exact fun v σ H x => h v σ H (x.down s)
  | bk ρ => exact fun σ H x => h σ H (x.down s)
  | ct ρ => exact fun σ H x => h σ H (x.down s)
  | ex c ρ => obtain ⟨C, h1, h2⟩ := h; exact ⟨C, h1, fun σ H x => h2 σ H (x.down s)⟩
/-- from an expression's outcome to a statement's -/
theorem SEnd.out {α : Type} {x : R α} {ρ : Env} {k : α → Sr} {σ : L2.St} {H : Hp} (st : Sta own' B K ρ σ H) (pn : Pin ol.P σ) (we : ∀ i ∈ ol.e, i ∈ own') (h : SEnd K mg W own ol B D (bindS x ρ k)) : Out mg W σ H x fun a => SEnd K mg W own ol B D (k a) := by
  cases x with
  | st => exact h
  | ok a => exact h
  | ex c => obtain ⟨C, h1, h2⟩ := h; exact ⟨C, h1, fun H' s => h2 σ H' ((st.grow s).weak we) pn⟩
theorem SEnd.weak (h : SEnd K mg W own' ol B D r) (w : ∀ i ∈ own', i ∈ own) : SEnd K mg W own ol B D r := by
  cases r with
  | nx ρ => exact fun σ H x => h σ H (x.weak w)
  | st => exact h
  | rt d => exact h
  | rb d ρ => exact h
  | bk ρ => exact h
  | ct ρ => exact h
  | ex c ρ => exact h
end
def seqS (a b : Env → Sr) (ρ : Env) : Sr := match a ρ with
  | .nx ρ' => b ρ'
  | r => r
def nilS (ρ : Env) : Sr := .nx ρ
def asgS (i : Nat) (f : Env → R D) (ρ : Env) : Sr := bindS (f ρ) ρ fun d => .nx (ρ.set i (some d))
def retS (f : Env → R D) (ρ : Env) : Sr := bindS (f ρ) ρ .rt
def retNS (_ : Env) : Sr := .rt .non
def retV (i : Nat) (ρ : Env) : Sr := match ρ[i]? with
  | some (some d) => .rt d
  | _ => .st
def ifS (t : Env → R Bool) (a b : Env → Sr) (ρ : Env) : Sr := bindS (t ρ) ρ fun c => if c = true then a ρ else b ρ
def exprS (f : Env → R D) (ρ : Env) : Sr := bindS (f ρ) ρ fun _ => .nx ρ
def bkS (ρ : Env) : Sr := .bk ρ
def ctS (ρ : Env) : Sr := .ct ρ
def raiseS (c : Str) (ρ : Env) : Sr := .ex c ρ
section
variable {X : Cx} {W : WX} {own own' own'' : List Nat} {ol : Ol} {st : Stmt} {sts : List Stmt} {a b : Env → Sr} {e : Expr} {f g : Env → R D} {pos : Pos}
theorem vs_nil : VSs X W own own ol [] nilS := ⟨pssW pss_nil fun D σ H ⟨B, ρ, x, pn, q⟩ => q σ H x pn⟩
theorem vs_cons (h1 : VS X W own own' ol st a) (h2 : VSs X W own' own'' ol sts b) : VSs X W own own'' ol (st :: sts) (seqS a b) := ⟨pssW (pss_cons h1.ps h2.ps) fun D σ H ⟨B, ρ, x, pn, q⟩ => ⟨B, ρ, x, pn, by
  unfold seqS at q
  cases e : a ρ with
  | nx ρ' => rw [e] at q; exact fun σ' H' x' pn' => ⟨B, ρ', x', pn', q⟩
  | st => rw [e] at q; exact q
  | rt d => rw [e] at q; exact q
  | rb d ρ => rw [e] at q; exact q
  | bk ρ => rw [e] at q; exact q
  | ct ρ => rw [e] at q; exact q
  | ex c ρ => rw [e] at q; exact q⟩⟩
theorem vs_one (h1 : VS X W own own' ol st a) : VSs X W own own' ol [st] a := ⟨pss_one h1.ps⟩
theorem VSs.weak (h : VSs X W own own' ol sts a) (w : ∀ i ∈ own'', i ∈ own' := by decide) : VSs X W own own'' ol sts a := ⟨pssW h.ps fun D σ H ⟨B, ρ, x, pn, q⟩ => ⟨B, ρ, x, pn, q.weak w⟩⟩
theorem VS.weak (h : VS X W own own' ol st a) (w : ∀ i ∈ own'', i ∈ own' := by decide) : VS X W own own'' ol st a := ⟨psW h.ps fun D σ H ⟨B, ρ, x, pn, q⟩ => ⟨B, ρ, x, pn, q.weak w⟩⟩
/-- fewer slots own ahead of a statement -/
theorem VS.pre (h : VS X W own' own'' ol st a) (w : ∀ i ∈ own', i ∈ own := by decide) : VS X W own own'' ol st a := ⟨psW h.ps fun D σ H ⟨B, ρ, x, pn, q⟩ => ⟨B, ρ, x.weak w, pn, q⟩⟩
theorem VSs.pre (h : VSs X W own' own'' ol sts a) (w : ∀ i ∈ own', i ∈ own := by decide) : VSs X W own own'' ol sts a := ⟨pssW h.ps fun D σ H ⟨B, ρ, x, pn, q⟩ => ⟨B, ρ, x.weak w, pn, q⟩⟩
theorem vs_set (i : Nat) {x : Str} {pos' : Pos} (hN : X.N.Nodup) (hi : X.N[i]? = some x) (hx : Loc X.env.scope x) (he : VG X W e f) (hs : swapsWith e (some (.Name x pos')) pos.line X.env = pure false := by rfl) (hf : X.fn x = true ∨ X.env.scope.names.lookup x = some .local := by first | exact .inl rfl | exact .inr rfl | assumption) (we : ∀ i ∈ ol.e, i ∈ own := by first | decide | (dsimp only; decide)) (hp : ol.P i = none := by rfl) :
    VS X W own (i :: own) ol (.Assign [.Name x pos'] e pos) (asgS i f) := ⟨psW (ps_set hN hi hx he.pe hs hf) fun D σ H ⟨B, ρ, x, pn, q⟩ => ⟨ρ, x.env, (SEnd.out x pn we q).mono fun d _ q v H' A s fu n => by
  obtain ⟨S, F, b, y⟩ := x
  exact q _ _ ⟨_, _, b.trans (ext_s []), y.put s fu n i⟩ (pn.set hp)⟩⟩
theorem vs_ret (he : VG X W e f) (we : ∀ i ∈ ol.e, i ∈ own := by first | decide | (dsimp only; decide)) : VS X W own own' ol (.Return (some e) pos) (retS f) := ⟨psW (ps_ret he.pe) fun D σ H ⟨B, ρ, x, pn, q⟩ => ⟨ρ, x.env, (SEnd.out x pn we q).mono fun d _ q v H' A s fu n => q v H' A (x.base.trans s) fu fun a m => x.base.free (n a m)⟩⟩
theorem vs_retN : VS X W own own' ol (.Return none pos) retNS := ⟨psW ps_retN fun D σ H ⟨B, ρ, x, pn, q⟩ => q .non H [] x.base .non (fun _ z => nomatch z)⟩
theorem vs_retV (i : Nat) {x : Str} {pos' : Pos} (p : PE X (.Name x pos') (tVar i)) (hi : i ∈ own := by decide) : VS X W own own' ol (.Return (some (.Name x pos')) pos) (retV i) := ⟨psW (ps_ret p) fun D σ H ⟨B, ρ, x, pn, q⟩ => by
  unfold retV at q
  split at q
  · rename_i d e
    obtain ⟨S, F, b, y⟩ := x
    obtain ⟨v, h1, h2, _⟩ := y.val i d e
    exact ⟨v, h1, q v H (F i) (b.trans y.sub) (h2 hi) fun a m => b.free (y.out i hi a m).1⟩
  · exact q.elim⟩
theorem vs_if {c : Expr} {t : Env → R Bool} {s1 s2 : List Stmt} (hc : VT X W c t) (h1 : VSs X W own own' ol s1 a) (h2 : VSs X W own own' ol s2 b) (we : ∀ i ∈ ol.e, i ∈ own := by first | decide | (dsimp only; decide)) : VS X W own own' ol (.If c s1 s2 pos) (ifS t a b) := ⟨psW (ps_if hc.pt h1.ps h2.ps) fun D σ H ⟨B, ρ, x, pn, q⟩ => ⟨ρ, x.env, (SEnd.out x pn we q).mono fun k _ q H' s => by
  cases k with
  | true => exact ⟨B, ρ, x.grow s, pn, q⟩
  | false => exact ⟨B, ρ, x.grow s, pn, q⟩⟩⟩
theorem vs_expr (he : VE X W e f) (hs : swapsWith e none pos.line X.env = pure false := by rfl) (we : ∀ i ∈ ol.e, i ∈ own := by first | decide | (dsimp only; decide)) : VS X W own own ol (.Expr e pos) (exprS f) := ⟨psW (ps_expr he.pe hs) fun D σ H ⟨B, ρ, x, pn, q⟩ => ⟨ρ, x.env, (SEnd.out x pn we q).mono fun d _ q v H' s _ => q σ H' (x.grow s) pn⟩⟩
theorem vs_pass : VS X W own own ol (.Pass pos) nilS := ⟨psW ps_pass fun D σ H ⟨B, ρ, x, pn, q⟩ => q σ H x pn⟩
theorem vs_break (w : ∀ i ∈ ol.l, i ∈ own := by first | decide | (dsimp only; decide)) : VS X W own own' ol (.Break pos) bkS := ⟨psW ps_break fun D σ H ⟨B, ρ, x, pn, q⟩ => q σ H (x.weak w) pn⟩
theorem vs_continue (w : ∀ i ∈ ol.l, i ∈ own := by first | decide | (dsimp only; decide)) : VS X W own own' ol (.Continue pos) ctS := ⟨psW ps_continue fun D σ H ⟨B, ρ, x, pn, q⟩ => q σ H (x.weak w) pn⟩
theorem vs_raise {cx : Str} {C : Addr} (hc : X.calm = true) (tk : Takes X W) (he : PMk X e (fun _ H Q => Q (.ref C) none H)) (hm : X.mg cx = some (.ref C)) (we : ∀ i ∈ ol.e, i ∈ own := by first | decide | (dsimp only; decide)) : VS X W own own' ol (.Raise (some e) none pos) (raiseS cx) := ⟨psW (ps_raise hc tk he) fun D σ H ⟨B, ρ, x, pn, q⟩ => by
  obtain ⟨C', h1, h2⟩ := q
  rw [hm] at h1
  cases h1
  exact h2 σ H (x.weak we) pn⟩
end

/-! ### a def -/
def bodyR : Sr → R D
  | .nx _ => .ok .non
  | .rt d => .ok d
  | .ex c _ => .ex c
  | _ => .st
def runB (n : Nat) (b : Env → Sr) (ds : List D) : R D := bodyR (b (ds.map some ++ List.replicate (n - ds.length) none))
section
variable {P : Program} {w : World} {K : PySem.W.Frag} {mg : Str → Option Value} {base : Heap}
theorem start_env {N : List Str} {vs : List V} {ds : List D} {H : Hp} (tb : TabsL H) (r : Rds K H vs ds) (hl : vs.length ≤ N.length) : Sta [] H K (ds.map some ++ List.replicate (N.length - ds.length) none) (L2.start N vs) H := by
  refine ⟨H, fun _ => [], Same.refl H, ?_, Same.refl H, fun a o e _ _ => e, tb, fun i d q => ?_, (fun i m => nomatch m), (fun i m => nomatch m)⟩
  · unfold L2.start
    simp [r.length]
  · rw [List.getElem?_append] at q
    split at q
    · rename_i hi
      rw [List.getElem?_map] at q
      cases e : ds[i]? with
      | none => rw [e] at q; cases q
      | some d' =>
        rw [e] at q
        cases q
        obtain ⟨v, h1, h2⟩ := r.get e
        refine ⟨v, ?_, (fun m => nomatch m), fun _ => h2⟩
        unfold L2.start
        rw [List.getElem?_append_left (by rw [List.length_map, r.length]; simpa using hi), List.getElem?_map, h1]
        rfl
    · rw [List.getElem?_replicate] at q
      split at q <;> cases q
theorem fn_ok {x qual : Str} {st : Stmt} {f : Addr} {fd : FuncData} {N ps : List Str} {k : Nat} {own' : List Nat} {b : Env → Sr} (F : Fun K x qual st f fd) (S : FnScope N ps (defScope st)) (hps : ps.length ≤ N.length)
    (hbody : ∀ (cdv : Value) (A : Around) (outer : List PySem.Env) (s : Shared) (H : Hp) (E : XK), Room k (A.deeper (envOfC qual (defScope st) s.heap.objs.size f cdv)) →
      VSs (cxOf (L2.CX P w) P w K mg base N qual (defScope st) f cdv A outer s H E) (fun cls d _ H => E cls d H) [] own' nol (defBody st) b) :
    FnOk P w K mg base (L2.CX P w) (k + 1) f fd ps (spF K mg ps.length (runB N.length b)) := by
  refine F.okX S (fun vs H Q E h => h.1) (fun cdv A outer s H vs Q E hr h => ?_)
  obtain ⟨hl, tb, ds, r, h⟩ := h
  refine ⟨_, (hbody cdv A outer s H E hr).ps, H, _, start_env tb r (by rw [hl]; exact hps), Pin.nol, ?_⟩
  unfold runB at h
  generalize b (ds.map some ++ List.replicate (N.length - ds.length) none) = q at h
  cases q with
  | st => exact h
  | nx ρ => exact fun σ H' y _ => h .non H' [] y.base .non (fun _ z => nomatch z)
  | rt d => exact h
  | rb d ρ => exact h.elim
  | bk ρ => exact h.elim
  | ct ρ => exact h.elim
  | ex c ρ =>
    obtain ⟨C, h1, h2⟩ := h
    exact ⟨C, h1, fun σ H' y _ => h2 H' y.base⟩
end
end Vs

namespace Vs
open PySem PySem.Spec PyProof.Rows L2

/-! ### what is walked -/
section
variable {K : PySem.W.Frag} {H H' S S' : Hp} {A : List Addr}
theorem ext_in {A : List Addr} {b : Addr} {o : HO} (h : H b = some o) (q : S b = none) (c : (Stt o ∧ NTb o) ∨ b ∈ A) : ext S H A b = some o := by
  unfold ext
  rw [q, h]
  simp only
  rw [if_pos c]
theorem ext_old {A : List Addr} {b : Addr} {o : HO} (q : S b = some o) : ext S H A b = some o := by
  unfold ext
  rw [q]
theorem ext_more {A : List Addr} (s : Same S H) {more : Array Value} (m : MoreOk H more) : MoreOk (ext S H A) more := ⟨m.1, fun pos cv hc => by
  obtain ⟨c, e, h⟩ := m.2 pos cv hc
  exact ⟨c, e, ext_stt s h True.intro⟩⟩
theorem ext_mono (s : Same H H') (sS : Same S H) : Same (ext S H A) (ext S H' A) := ⟨fun b o e n => by
  rcases ext_or e with q | ⟨q, h, c⟩
  · exact ext_old q
  · exact ext_in (s.mv h n) q c, fun b ps e => by
  rcases ext_or e with q | ⟨q, h, c⟩
  · exact ⟨#[], by rw [ext_old q]; simp, MoreOk.nil _⟩
  · obtain ⟨more, e1, k⟩ := s.tab b ps h
    exact ⟨more, ext_in e1 q (.inr (c.elim (fun z => z.2.elim) id)), ext_more (sS.trans s) k⟩⟩
theorem ext_sub (s : Same S S') (sS : Same S' H) : Same (ext S H []) (ext S' H []) := by
  refine ⟨fun b o e n => ?_, fun b ps e => ?_⟩
  · rcases ext_or e with q | ⟨q, h, c⟩
    · exact ext_old (s.mv q n)
    · rcases c with c | c
      · exact ext_stt sS h c.1 n
      · cases c
  · rcases ext_or e with q | ⟨q, h, c⟩
    · obtain ⟨more, e1, k⟩ := s.tab b ps q
      exact ⟨more, ext_old e1, k.up fun b o h n => ext_old h⟩
    · rcases c with c | c
      · exact c.2.elim
      · cases c
theorem ext_ext {H1 H2 : Hp} {B : List Addr} (sS : Same S H1) (s2 : Same H1 H2) : Same (ext (ext S H1 A) H2 B) (ext S H2 (A ++ B)) := by
  have nn : ∀ {b : Addr}, ext S H1 A b = none → S b = none := fun {b} z => by
    cases q : S b with
    | none => rfl
    | some u => rw [ext_old q] at z; cases z
  refine ⟨fun b o e n => ?_, fun b ps e => ?_⟩
  · rcases ext_or e with q | ⟨q, h, c⟩
    · rcases ext_or q with q | ⟨q, h, c⟩
      · exact ext_old q
      · exact ext_in (s2.mv h n) q (c.imp id fun z => List.mem_append_left _ z)
    · exact ext_in h (nn q) (c.imp id fun z => List.mem_append_right _ z)
  · rcases ext_or e with q | ⟨q, h, c⟩
    · rcases ext_or q with q | ⟨q, h, c⟩
      · exact ⟨#[], by rw [ext_old q]; simp, MoreOk.nil _⟩
      · obtain ⟨more, e1, k⟩ := s2.tab b ps h
        exact ⟨more, ext_in e1 q (.inr (List.mem_append_left _ (c.elim (fun z => z.2.elim) id))), ext_more (sS.trans s2) k⟩
    · exact ⟨#[], by rw [ext_in h (nn q) (c.imp id fun z => List.mem_append_right _ z)]; simp, MoreOk.nil _⟩
/-- at each turn the next of ds, from a heap that keeps S0 -/
def IterOk (K : PySem.W.Frag) (J : It) (S0 : Hp) (ds : List D) : Prop := ∀ (S H : Hp) (i : Nat), Same S0 S → Same S H →
  (∀ d, ds[i]? = some d → J.go i H ∧ ∀ x H', J.yld i H x H' → Same H H' ∧ Rd K (ext S H' []) x d) ∧ (ds.length ≤ i → J.stop i H)
theorem it_list {a : Addr} {vs : List V} {ds : List D} (h : SqL K S a vs) (r : Rds K S vs ds) : IterOk K (Itl K a) S ds := fun S1 H1 i s1 s2 => by
  have hq : SqL K H1 a vs := (s1.trans s2).seq h
  refine ⟨fun d hd => ?_, fun hl => ⟨vs, hq, by rw [r.length]; exact hl⟩⟩
  obtain ⟨v, hv, rv⟩ := r.get hd
  refine ⟨⟨vs, v, hq, hv⟩, fun x H' y => ?_⟩
  obtain ⟨rfl, y⟩ := y
  have e := y vs hq
  rw [hv] at e
  cases e
  exact ⟨Same.refl _, rv.mono (s1.trans (ext_s []))⟩
theorem it_tup {a : Addr} {vs : List V} {ds : List D} (h : TpT K S a vs) (r : Rds K S vs ds) : IterOk K (Itt K a) S ds := fun S1 H1 i s1 s2 => by
  have hq : SqT K H1 a vs := (seqT (s1.trans s2) h).sq
  refine ⟨fun d hd => ?_, fun hl => ⟨vs, hq, by rw [r.length]; exact hl⟩⟩
  obtain ⟨v, hv, rv⟩ := r.get hd
  refine ⟨⟨vs, v, hq, hv⟩, fun x H' y => ?_⟩
  obtain ⟨rfl, y⟩ := y
  have e := y vs hq
  rw [hv] at e
  cases e
  exact ⟨Same.refl _, rv.mono (s1.trans (ext_s []))⟩
theorem get_rev {α : Type} {xs : List α} {i : Nat} (h : i < xs.length) : xs[xs.length - 1 - i]? = xs.reverse[i]? := by
  rw [List.getElem?_reverse h]
theorem rds_rev {vs : List V} {ds : List D} (r : Rds K S vs ds) {i : Nat} {d : D} (hd : ds.reverse[i]? = some d) : i < vs.length ∧ ∃ v, vs[vs.length - 1 - i]? = some v ∧ Rd K S v d := by
  have hi : i < ds.length := by
    have := (List.getElem?_eq_some_iff.mp hd).1
    simpa using this
  rw [← get_rev hi] at hd
  obtain ⟨v, hv, rv⟩ := r.get hd
  rw [r.length]
  exact ⟨hi, v, hv, rv⟩
theorem it_revL {a : Addr} {vs : List V} {ds : List D} (h : SqL K S a vs) (r : Rds K S vs ds) : IterOk K (Itv K a vs.length) S ds.reverse := fun S1 H1 i s1 s2 => by
  have hq : SqL K H1 a vs := (s1.trans s2).seq h
  refine ⟨fun d hd => ?_, fun hl => (by rw [List.length_reverse, ← r.length] at hl; exact hl)⟩
  obtain ⟨hi, v, hv, rv⟩ := rds_rev r hd
  refine ⟨⟨hi, vs, v, hq, hv⟩, fun x H' y => ?_⟩
  obtain ⟨rfl, y⟩ := y
  have e := y vs hq
  rw [hv] at e
  cases e
  exact ⟨Same.refl _, rv.mono (s1.trans (ext_s []))⟩
theorem it_revT {a : Addr} {vs : List V} {ds : List D} (h : TpT K S a vs) (r : Rds K S vs ds) : IterOk K (RT.ItvT K a vs.length) S ds.reverse := fun S1 H1 i s1 s2 => by
  have hq : SqT K H1 a vs := (seqT (s1.trans s2) h).sq
  refine ⟨fun d hd => ?_, fun hl => (by rw [List.length_reverse, ← r.length] at hl; exact hl)⟩
  obtain ⟨hi, v, hv, rv⟩ := rds_rev r hd
  refine ⟨⟨hi, vs, v, hq, hv⟩, fun x H' y => ?_⟩
  obtain ⟨rfl, y⟩ := y
  have e := y vs hq
  rw [hv] at e
  cases e
  exact ⟨Same.refl _, rv.mono (s1.trans (ext_s []))⟩
def rngL (lo : Int) (n : Nat) : List D := (List.range n).map fun (i : Nat) => D.int (lo + (i : Int))
def rngC (lo c : Int) (n : Nat) : List D := (List.range n).map fun (i : Nat) => D.int (lo + (i : Int) * c)
theorem rngC_get {lo c : Int} {n i : Nat} {d : D} (h : (rngC lo c n)[i]? = some d) : i < n ∧ d = .int (lo + (i : Int) * c) := by
  unfold rngC at h
  rw [List.getElem?_map] at h
  cases e : (List.range n)[i]? with
  | none => rw [e] at h; cases h
  | some j =>
    rw [e] at h
    have q := List.getElem?_eq_some_iff.mp e
    obtain ⟨q1, q2⟩ := q
    rw [List.getElem_range] at q2
    subst q2
    cases h
    exact ⟨by simpa using q1, rfl⟩
theorem rngL_eq (lo : Int) (n : Nat) : rngL lo n = rngC lo 1 n := by unfold rngL rngC; simp
theorem it_rng (lo : Int) (n : Nat) : IterOk K (Itr lo n) S (rngL lo n) := fun S1 H1 i s1 s2 => by
  refine ⟨fun d hd => ?_, fun hl => (show n ≤ i by simpa [rngL] using hl)⟩
  rw [rngL_eq] at hd
  obtain ⟨hi, rfl⟩ := rngC_get hd
  refine ⟨hi, fun x H' y => ?_⟩
  obtain ⟨rfl, rfl⟩ := y
  rw [Int.mul_one]
  exact ⟨Same.refl _, .int _⟩
theorem it_rngC (lo c : Int) (n : Nat) : IterOk K (Itc lo c n) S (rngC lo c n) := fun S1 H1 i s1 s2 => by
  refine ⟨fun d hd => ?_, fun hl => (show n ≤ i by simpa [rngC] using hl)⟩
  obtain ⟨hi, rfl⟩ := rngC_get hd
  refine ⟨hi, fun x H' y => ?_⟩
  obtain ⟨rfl, rfl⟩ := y
  exact ⟨Same.refl _, .int _⟩
def strL (x : Str) : List D := x.cps.toList.map fun c => D.str ⟨#[c]⟩
theorem it_str (x : Str) : IterOk K (Its x) S (strL x) := fun S1 H1 i s1 s2 => by
  refine ⟨fun d hd => ?_, fun hl => (show x.cps.size ≤ i by simpa [strL] using hl)⟩
  unfold strL at hd
  rw [List.getElem?_map, Array.getElem?_toList] at hd
  cases e : x.cps[i]? with
  | none => rw [e] at hd; cases hd
  | some c =>
    rw [e] at hd
    cases hd
    refine ⟨(Array.getElem?_eq_some_iff.mp e).1, fun v H' y => ?_⟩
    obtain ⟨rfl, c', h1, rfl⟩ := y
    rw [e] at h1
    cases h1
    exact ⟨Same.refl _, .str _⟩
def enumL : Nat → List D → List D
  | _, [] => []
  | n, d :: ds => .tup [.int n, d] :: enumL (n + 1) ds
theorem enumL_get : ∀ {ds : List D} {n i : Nat} {d : D}, (enumL n ds)[i]? = some d → ∃ e, ds[i]? = some e ∧ d = .tup [.int ((n + i : Nat) : Int), e]
  | [], n, i, d, h => by simp [enumL] at h
  | x :: ds, n, 0, d, h => by
    simp [enumL] at h
    exact ⟨x, rfl, by rw [← h]; rfl⟩
  | x :: ds, n, i + 1, d, h => by
    simp only [enumL, List.getElem?_cons_succ] at h
    obtain ⟨e, h1, h2⟩ := enumL_get h
    exact ⟨e, by simpa using h1, by rw [h2, show n + 1 + i = n + (i + 1) from by omega]⟩
theorem enumL_length : ∀ {ds : List D} {n : Nat}, (enumL n ds).length = ds.length
  | [], _ => rfl
  | x :: ds, n => by simp [enumL, enumL_length]
theorem it_enum {a : Addr} {vs : List V} {ds : List D} (h : SqL K S a vs) (r : Rds K S vs ds) : IterOk K (Ite K a) S (enumL 0 ds) := fun S1 H1 i s1 s2 => by
  have hq : SqL K H1 a vs := (s1.trans s2).seq h
  refine ⟨fun d hd => ?_, fun hl => ⟨vs, hq, by rw [r.length, ← enumL_length (ds := ds) (n := 0)]; exact hl⟩⟩
  obtain ⟨e, h1, rfl⟩ := enumL_get hd
  obtain ⟨v, hv, rv⟩ := r.get h1
  refine ⟨⟨vs, v, hq, hv⟩, fun x H' y => ?_⟩
  obtain ⟨T, u, rfl, hT, rfl, y⟩ := y
  have e := y vs hq
  rw [hv] at e
  cases e
  have sn : Same H1 (upd H1 T (.tup [.int (i : Nat), v])) := new_same hT
  refine ⟨sn, .tup (.inl (ext_stt (s2.trans sn) upd_same trivial)) (.cons ?_ (.cons (rv.mono (s1.trans (ext_s []))) .nil))⟩
  rw [Nat.zero_add]
  exact .int _
def zipL : List D → List D → List D
  | d :: ds, e :: es => .tup [d, e] :: zipL ds es
  | _, _ => []
theorem zipL_get : ∀ {ds es : List D} {i : Nat} {d : D}, (zipL ds es)[i]? = some d → ∃ x y, ds[i]? = some x ∧ es[i]? = some y ∧ d = .tup [x, y]
  | [], _, i, d, h => by simp [zipL] at h
  | _ :: _, [], i, d, h => by simp [zipL] at h
  | x :: ds, y :: es, 0, d, h => by
    simp [zipL] at h
    exact ⟨x, y, rfl, rfl, h.symm⟩
  | x :: ds, y :: es, i + 1, d, h => by
    simp only [zipL, List.getElem?_cons_succ] at h ⊢
    exact zipL_get h
theorem zipL_length : ∀ {ds es : List D}, (zipL ds es).length = min ds.length es.length
  | [], _ => by simp [zipL]
  | _ :: _, [] => by simp [zipL]
  | x :: ds, y :: es => by simp [zipL, zipL_length]
theorem it_zip {a b : Addr} {vs ws : List V} {ds es : List D} (h : SqL K S a vs) (r : Rds K S vs ds) (h' : SqL K S b ws) (r' : Rds K S ws es) : IterOk K (Itz K a b) S (zipL ds es) := fun S1 H1 i s1 s2 => by
  have hq : SqL K H1 a vs := (s1.trans s2).seq h
  have hq' : SqL K H1 b ws := (s1.trans s2).seq h'
  refine ⟨fun d hd => ?_, fun hl => ⟨vs, ws, hq, hq', by rw [r.length, r'.length]; rw [zipL_length] at hl; omega⟩⟩
  obtain ⟨x, y, h1, h2, rfl⟩ := zipL_get hd
  obtain ⟨v, hv, rv⟩ := r.get h1
  obtain ⟨w, hw, rw_⟩ := r'.get h2
  refine ⟨⟨vs, ws, v, w, hq, hq', hv, hw⟩, fun x H' y => ?_⟩
  obtain ⟨T, u, u', rfl, hT, rfl, y, y'⟩ := y
  have e := y vs hq
  rw [hv] at e
  cases e
  have e := y' ws hq'
  rw [hw] at e
  cases e
  have sn : Same H1 (upd H1 T (.tup [v, w])) := new_same hT
  exact ⟨sn, .tup (.inl (ext_stt (s2.trans sn) upd_same trivial)) (.cons (rv.mono (s1.trans (ext_s []))) (.cons (rw_.mono (s1.trans (ext_s []))) .nil))⟩
end

/-! ### sources: what they hand out stays -/
def tP (K : PySem.W.Frag) (mg : Str → Option Value) (W : WX) (own : List Nat) (f : Env → R D) : TE := fun σ H Q => ∃ ρ S F, Stx own K S F ρ σ H ∧ Out mg W σ H (f ρ) fun d => ∀ v H' A, Same H H' → (∀ a ∈ A, H a = none) → Rd K (ext S H' A) v d → Q v H'
def tPs (K : PySem.W.Frag) (mg : Str → Option Value) (W : WX) (own : List Nat) (f : Env → R (List D)) : TA := fun σ H Q => ∃ ρ S F, Stx own K S F ρ σ H ∧ Out mg W σ H (f ρ) fun d => ∀ v H' A, Same H H' → (∀ a ∈ A, H a = none) → Rds K (ext S H' A) v d → Q v H'
structure VP (X : Cx) (W : WX) (own : List Nat) (e : Expr) (f : Env → R D) : Prop where
  pe : PE X e (tP X.K X.mg W own f)
structure VPs (X : Cx) (W : WX) (own : List Nat) (e : List Expr) (f : Env → R (List D)) : Prop where
  pa : PA X e (tPs X.K X.mg W own f)
def tI (K : PySem.W.Frag) (mg : Str → Option Value) (W : WX) (own : List Nat) (f : Env → R (List D)) : TI := fun σ H R => ∃ ρ S F, Stx own K S F ρ σ H ∧ Out mg W σ H (f ρ) fun ds => ∀ J H' A, Same H H' → (∀ a ∈ A, H a = none) → IterOk K J (ext S H' A) ds → R J H'
structure VI (X : Cx) (W : WX) (own : List Nat) (tg iter : Expr) (f : Env → R (List D)) : Prop where
  pi : PI X tg iter (tI X.K X.mg W own f)
theorem piW {X : Cx} {tg e : Expr} {t u : TI} (h : PI X tg e t) (q : ∀ σ H Q, u σ H Q → t σ H Q) : PI X tg e u := ⟨fun pins s σ H Q I x => h.run pins s σ H Q I (q σ H Q x)⟩
theorem piOr {X : Cx} {tg e : Expr} {t u : TI} (h : PI X tg e t) (h' : PI X tg e u) : PI X tg e (fun σ H R => t σ H R ∨ u σ H R) := ⟨fun pins s σ H R I x => x.elim (h.run pins s σ H R I) (h'.run pins s σ H R I)⟩
section
variable {X : Cx} {W : WX} {own : List Nat} {e a b c tg : Expr} {es : List Expr} {f g : Env → R D} {fs : Env → R (List D)} {x : Str} {p pos : Pos}
theorem vp_var (i : Nat) (q : PE X (.Name x pos) (tVar i)) (hi : i ∉ own := by decide) : VP X W own (.Name x pos) (varE i) := ⟨peW q fun σ H Q ⟨ρ, S, F, st, o⟩ => by
  unfold varE at o
  split at o
  · rename_i d e
    obtain ⟨v, h1, _, h2⟩ := st.val i d e
    exact ⟨v, h1, o v H [] (Same.refl H) (fun _ z => nomatch z) ((h2 hi).mono (ext_s _))⟩
  · exact o.elim⟩
theorem VG.vp (v : VG X W e f) : VP X W own e f := ⟨peW v.pe fun σ H Q ⟨ρ, S, F, st, o⟩ => ⟨ρ, st.env, o.mono fun d _ q v H' A s fu n => q v H' A s n (fu.ext (st.sub.trans s) fun _ m => m)⟩⟩
theorem vp_ix (ha : VP X W own a f) (hb : VE X W b g) (hs : PlainIx b) : VP X W own (.Subscript a b pos) (op2 ixD f g) :=
  ⟨peW (pe_ix ix_seq ha.pe hb.pe hs) fun σ H Q ⟨ρ, S, F, st, o⟩ => ⟨ρ, S, F, st, (Out.bind o).mono fun d _ q v H1 A s1 n1 r1 => ⟨ρ, st.env.mono s1, ((Out.bind q).up s1).mono fun e _ q w H2 s2 r2 => by
    have sS : Same S H2 := st.sub.trans (s1.trans s2)
    have r1 := r1.mono (ext_mono (A := A) s2 (st.sub.trans s1))
    unfold ixD at q
    split at q
    · split at q
      · rename_i hx
        cases r2
        cases r1 with
        | lst h1 r1 =>
          obtain ⟨u, hu, ru⟩ := atI_rd r1 hx
          exact .inl ⟨_, _, _, u, rfl, rfl, (ext_h sS A).seq h1, hu, q u H2 A (s1.trans s2) n1 ru⟩
      · exact q.elim
    · split at q
      · rename_i hx
        cases r2
        cases r1 with
        | tup h1 r1 =>
          obtain ⟨u, hu, ru⟩ := atI_rd r1 hx
          exact .inr (.inl ⟨_, _, _, u, rfl, rfl, (seqT (ext_h sS A) h1).sq, hu, q u H2 A (s1.trans s2) n1 ru⟩)
      · exact q.elim
    · split at q
      · rename_i hz
        split at q
        · rename_i hx
          cases r2
          cases r1
          exact .inr (.inr ⟨_, _, _, rfl, rfl, hz, hx, q _ H2 A (s1.trans s2) n1 (.str _)⟩)
        · exact q.elim
      · exact q.elim
    · exact q.elim⟩⟩⟩
theorem vps_nil : VPs X W own [] nilA := ⟨paW pa_nil fun σ H Q ⟨ρ, S, F, st, o⟩ => o [] H [] (Same.refl H) (fun _ z => nomatch z) .nil⟩
theorem vps_cons (ha : VP X W own e f) (hr : VPs X W own es fs) (hs : starEach (e :: es) X.env = (false, eval e X.env) :: starEach es X.env := by rfl) : VPs X W own (e :: es) (consA f fs) :=
  ⟨paW (pa_cons ha.pe hr.pa hs) fun σ H Q ⟨ρ, S, F, st, o⟩ => ⟨ρ, S, F, st, (Out.bind o).mono fun d _ q v H1 A s1 n1 r1 => ⟨ρ, ext S H1 A, F, st.grow s1 n1, ((Out.bind q).up s1).mono fun ds _ q vs H2 B s2 n2 r2 => by
    have k1 : Same (ext (ext S H1 A) H2 B) (ext S H2 (A ++ B)) := ext_ext (st.sub.trans s1) s2
    exact q (v :: vs) H2 (A ++ B) (s1.trans s2) (fun x hx => (List.mem_append.mp hx).elim (fun z => n1 x z) fun z => s1.free (n2 x z)) (.cons (r1.mono ((ext_s B).trans k1)) (r2.mono k1))⟩⟩⟩

/-! ### iterables -/
def itV (g : D → R (List D)) (f : Env → R D) (ρ : Env) : R (List D) := (f ρ).bind g
def itR (g : List D → R (List D)) (f : Env → R (List D)) (ρ : Env) : R (List D) := (f ρ).bind g
def revR : D → R (List D)
  | .lst xs => .ok xs.reverse
  | .tup xs => .ok xs.reverse
  | _ => .st
def enumR : List D → R (List D)
  | [.lst xs] => .ok (enumL 0 xs)
  | _ => .st
def zipR : List D → R (List D)
  | [.lst xs, .lst ys] => .ok (zipL xs ys)
  | _ => .st
def itemsR : D → R (List D)
  | .lst xs => .ok xs
  | .tup xs => .ok xs
  | .str x => .ok (strL x)
  | _ => .st
theorem vi_seq (ha : VP X W own a f) : VI X W own tg a (itV itemsR f) := ⟨piW (piOr (pi_list ha.pe) (piOr (pi_tup ha.pe) (pi_str ha.pe))) fun σ H Q ⟨ρ, S, F, st, o⟩ => by
  have o := Out.bind o
  cases hd : f ρ with
  | ok d =>
    rw [hd] at o
    have o : Out X.mg W σ H (itemsR d) _ := o
    cases d with
    | lst xs =>
      refine .inl ⟨ρ, S, F, st, ?_⟩
      rw [hd]
      intro v H' A s n r
      cases r with
      | lst h r => exact ⟨_, rfl, ⟨_, (ext_h (st.sub.trans s) A).seq h⟩, o _ H' A s n (it_list h r)⟩
    | tup xs =>
      refine .inr (.inl ⟨ρ, S, F, st, ?_⟩)
      rw [hd]
      intro v H' A s n r
      cases r with
      | tup h r => exact ⟨_, rfl, ⟨_, (seqT (ext_h (st.sub.trans s) A) h).sq⟩, o _ H' A s n (it_tup h r)⟩
    | str x =>
      refine .inr (.inr ⟨ρ, S, F, st, ?_⟩)
      rw [hd]
      intro v H' A s n r
      cases r
      exact ⟨x, rfl, o _ H' A s n (it_str x)⟩
    | _ => exact o.elim
  | ex c =>
    rw [hd] at o
    refine .inl ⟨ρ, S, F, st, ?_⟩
    rw [hd]
    exact o
  | st => rw [hd] at o; exact o.elim⟩
theorem vi_rev (hg : Gl X "reversed") (hm : X.mg "reversed" = none) (ha : VP X W own a f) (hs : starEach [a] X.env = (false, eval a X.env) :: starEach [] X.env := by rfl) :
    VI X W own tg (.Call (.Name "reversed" p) [a] [] pos) (itV revR f) :=
  ⟨piW (RT.pi_revA hg hm ha.pe hs) fun σ H Q ⟨ρ, S, F, st, o⟩ => ⟨ρ, S, F, st, (Out.bind o).mono fun d _ q v H' A s n r => by
    cases r with
    | lst h r => exact ⟨_, _, rfl, .inl ⟨(ext_h (st.sub.trans s) A).seq h, q _ H' A s n (it_revL h r)⟩⟩
    | tup h r => exact ⟨_, _, rfl, .inr ⟨(seqT (ext_h (st.sub.trans s) A) h).sq, q _ H' A s n (it_revT h r)⟩⟩
    | _ => exact q.elim⟩⟩
def bnd (i : Int) : Prop := -(2 ^ 62) ≤ i ∧ i < 2 ^ 62
instance (i : Int) : Decidable (bnd i) := inferInstanceAs (Decidable (_ ∧ _))
def rng1 : List D → R (List D)
  | [.int j] => if bnd j then .ok (rngL 0 j.toNat) else .st
  | _ => .st
def rng2 : List D → R (List D)
  | [.int i, .int j] => if bnd i ∧ bnd j then .ok (rngL i (j - i).toNat) else .st
  | _ => .st
/-- how many turns a range has -/
def rngN (i j c : Int) : Nat := if 0 < c then ((j - i + c - 1) / c).toNat else if c < 0 then ((i - j - c - 1) / (-c)).toNat else 0
def rng3 : List D → R (List D)
  | [.int i, .int j, .int c] => if bnd i ∧ bnd j ∧ c ≠ 0 ∧ c.natAbs < 1073741824 then .ok (rngC i c (rngN i j c)) else .st
  | _ => .st
theorem vi_rng1 (hg : Gl X "range") (hm : X.mg "range" = none) (ha : VA X W [a] fs) (hs : starEach [a] X.env = [(false, eval a X.env)] := by rfl) : VI X W own tg (.Call (.Name "range" p) [a] [] pos) (itR rng1 fs) :=
  ⟨piW (pi_range1 hg hm ha.pa hs) fun σ H Q ⟨ρ, S, F, st, o⟩ => ⟨ρ, st.env, (Out.bind o).mono fun ds _ q vs H' s r => by
    unfold rng1 at q
    split at q
    · obtain ⟨v, rfl, h1⟩ := rds1 r
      split at q
      · rename_i c
        cases h1
        exact ⟨_, rfl, c.1, c.2, q _ H' [] s (fun _ z => nomatch z) (it_rng 0 _)⟩
      · exact q.elim
    · exact q.elim⟩⟩
theorem vi_rng2 (hg : Gl X "range") (hm : X.mg "range" = none) (ha : VA X W [a, b] fs) (hs : starEach [a, b] X.env = [(false, eval a X.env), (false, eval b X.env)] := by rfl) (hs2 : starEach [b] X.env = [(false, eval b X.env)] := by rfl) :
    VI X W own tg (.Call (.Name "range" p) [a, b] [] pos) (itR rng2 fs) :=
  ⟨piW (pi_range2 hg hm ha.pa hs hs2) fun σ H Q ⟨ρ, S, F, st, o⟩ => ⟨ρ, st.env, (Out.bind o).mono fun ds _ q vs H' s r => by
    unfold rng2 at q
    split at q
    · obtain ⟨v, w, rfl, h1, h2⟩ := rds2 r
      split at q
      · rename_i c
        cases h1
        cases h2
        exact ⟨_, _, rfl, ⟨c.1.1, c.1.2, c.2.1, c.2.2⟩, q _ H' [] s (fun _ z => nomatch z) (it_rng _ _)⟩
      · exact q.elim
    · exact q.elim⟩⟩
theorem vi_enum {elts : List Expr} {kk : Nat} {tpos : Pos} (hg : Gl X "enumerate") (hm : X.mg "enumerate" = none) (ha : VPs X W own [a] fs) (hs : starEach [a] X.env = [(false, eval a X.env)] := by rfl) :
    VI X W own (.Tuple elts kk tpos) (.Call (.Name "enumerate" p) [a] [] pos) (itR enumR fs) :=
  ⟨piW (pi_enum hg hm ha.pa hs) fun σ H Q ⟨ρ, S, F, st, o⟩ => ⟨ρ, S, F, st, (Out.bind o).mono fun ds _ q vs H' A s n r => by
    unfold enumR at q
    split at q
    · obtain ⟨v, rfl, h1⟩ := rds1 r
      cases h1 with
      | lst h r => exact ⟨_, _, rfl, (ext_h (st.sub.trans s) A).seq h, q _ H' A s n (it_enum h r)⟩
    · exact q.elim⟩⟩
theorem vi_zip {elts : List Expr} {kk : Nat} {tpos : Pos} (hg : Gl X "zip") (hm : X.mg "zip" = none) (ha : VPs X W own [a, b] fs) (hs : starEach [a, b] X.env = (false, eval a X.env) :: starEach [b] X.env := by rfl) (hpl : (backTo pos (starEach [b] X.env)).any (·.1) = false := by rfl) :
    VI X W own (.Tuple elts kk tpos) (.Call (.Name "zip" p) [a, b] [] pos) (itR zipR fs) :=
  ⟨piW (pi_zip hg hm ha.pa hs hpl) fun σ H Q ⟨ρ, S, F, st, o⟩ => ⟨ρ, S, F, st, (Out.bind o).mono fun ds _ q vs H' A s n r => by
    unfold zipR at q
    split at q
    · obtain ⟨v, w, rfl, h1, h2⟩ := rds2 r
      cases h1 with
      | lst h r1 =>
        cases h2 with
        | lst h' r' => exact ⟨_, _, _, _, rfl, (ext_h (st.sub.trans s) A).seq h, (ext_h (st.sub.trans s) A).seq h', q _ H' A s n (it_zip h r1 h' r')⟩
    · exact q.elim⟩⟩
end
end Vs

namespace Vs
open PySem PySem.Spec PyProof.Rows L2

/-! ### targets of a loop -/
def TgOk (X : Cx) (own slots : List Nat) (g : TG) (tf : D → Env → Option Env) : Prop := ∀ (S : Hp) (F : Nat → List Addr) (ρ : Env) (σ : L2.St) (H : Hp) (x : V) (d : D) (ρ' : Env), Stx own X.K S F ρ σ H → Rd X.K S x d → tf d ρ = some ρ' →
  ∀ Q : L2.St → Hp → Prop, (∀ σ', Stx own X.K S F ρ' σ' H → (∀ k, k ∉ slots → σ'[k]? = σ[k]?) → σ'.length = σ.length → Q σ' H) → g x σ H Q
structure VG' (X : Cx) (own slots : List Nat) (tg : Expr) (tf : D → Env → Option Env) : Prop where
  ex : ∃ g, PG X tg g ∧ TgOk X own slots g tf
def tgN (i : Nat) (d : D) (ρ : Env) : Option Env := some (ρ.set i (some d))
def tgT (i j : Nat) (d : D) (ρ : Env) : Option Env := match d with
  | .tup [a, b] => some ((ρ.set i (some a)).set j (some b))
  | _ => none
section
variable {X : Cx} {own : List Nat} {pos : Pos}
theorem tg_name (i : Nat) {x : Str} (p : PG X (.Name x pos) (gName i)) (hi : i ∉ own := by decide) : VG' X own [i] (.Name x pos) (tgN i) := ⟨_, p, fun S F ρ σ H v d ρ' st r e Q q => by
  cases e
  refine q _ (st.lay hi r) (fun k hk => ?_) (by rw [List.length_set])
  rw [List.getElem?_set_ne fun e => hk (List.mem_singleton.mpr e.symm)]⟩
theorem tg_tup (i j : Nat) {es : List Expr} {kk : Nat} (p : PG X (.Tuple es kk pos) (gTup X.K 2 (gCons (gName i) (gCons (gName j) gNil)))) (hi : i ∉ own := by decide) (hj : j ∉ own := by decide) : VG' X own [i, j] (.Tuple es kk pos) (tgT i j) := ⟨_, p, fun S F ρ σ H v d ρ' st r e Q q => by
  unfold tgT at e
  split at e
  · cases e
    cases r with
    | tup h r =>
      obtain ⟨v, w, rfl, h1, h2⟩ := rds2 r
      refine ⟨_, _, rfl, (seqT st.sub h).sq, rfl, v, [w], rfl, w, [], rfl, rfl, ?_⟩
      refine q _ ((st.lay hi h1).lay hj h2) (fun k hk => ?_) (by rw [List.length_set, List.length_set])
      rw [List.getElem?_set_ne fun e => hk (by simp [e]), List.getElem?_set_ne fun e => hk (by simp [e])]
  · cases e⟩
end

/-! ### for -/
def forL (tf : D → Env → Option Env) (b : Env → Sr) : List D → Env → Sr
  | [], ρ => .nx ρ
  | d :: ds, ρ => match tf d ρ with
    | none => .st
    | some ρ1 => match b ρ1 with
      | .nx ρ2 => forL tf b ds ρ2
      | .ct ρ2 => forL tf b ds ρ2
      | .bk ρ2 => .nx ρ2
      | r => r
def forS (fi : Env → R (List D)) (tf : D → Env → Option Env) (b : Env → Sr) (ρ : Env) : Sr := bindS (fi ρ) ρ fun ds => forL tf b ds ρ
section
variable {X : Cx} {W : WX} {own own' own'' slots : List Nat} {ol : Ol} {tg iter : Expr} {body : List Stmt} {fi : Env → R (List D)} {tf : D → Env → Option Env} {b : Env → Sr} {pos : Pos}
theorem vs_for (hp : PassesOwn (model X.prog X.w) X.A X.env X.xe) (hc : X.calm = true) (hi : VI X W own tg iter fi) (hg : VG' X own slots tg tf) (hb : VSs X W own own { ol with l := own } body b)
    (hs : ∀ x, foldedSetIterable iter X.env x = pure x := by intro _; rfl) (we : ∀ i ∈ ol.e, i ∈ own := by first | decide | (dsimp only; decide)) (hpn : ∀ i ∈ slots, ol.P i = none := by first | exact (fun _ _ => rfl) | (intro i hi; simp only [List.mem_cons, List.not_mem_nil, or_false] at hi; (repeat' (rcases hi with rfl | hi)) <;> first | rfl | (subst hi; rfl))) : VS X W own own ol (.For tg iter body [] pos) (forS fi tf b) := by
  obtain ⟨g, pg, tk⟩ := hg
  refine ⟨psW (ps_for hp hc hi.pi pg hb.ps hs) fun D σ H ⟨B, ρ, x, pn, q⟩ => ?_⟩
  have q0 := SEnd.out x pn we q
  obtain ⟨S, F, bS, st⟩ := x
  refine ⟨ρ, S, F, st, q0.mono fun ds _ q J H1 A s1 n1 it => ?_⟩
  have st1 := st.grow s1 n1
  generalize hB : ext S H1 A = B1 at it st1
  have sB : Same B B1 := by rw [← hB]; exact bS.trans (ext_s A)
  refine ⟨fun i m σ H => m = ds.length - i ∧ i ≤ ds.length ∧ ∃ ρ, Sta own B1 X.K ρ σ H ∧ Pin ol.P σ ∧ SEnd X.K X.mg W own ol B1 D (forL tf b (ds.drop i) ρ), ⟨ds.length, by simp, Nat.zero_le _, ρ, ⟨B1, F, Same.refl _, st1⟩, pn, q.up sB⟩, ?_⟩
  rintro i m σ2 H2 ⟨rfl, hi, ρ2, ⟨S2, F2, b2, x2⟩, pn2, q2⟩
  obtain ⟨go, stop⟩ := it S2 H2 i b2 x2.sub
  by_cases hlt : i < ds.length
  · obtain ⟨g1, g2⟩ := go ds[i] (List.getElem?_eq_getElem hlt)
    refine .inr ⟨g1, fun σ' H' => ∃ ρ', Sta own B1 X.K ρ' σ' H' ∧ Pin ol.P σ' ∧ SEnd X.K X.mg W own ol B1 D (forL tf b (ds.drop (i + 1)) ρ'), fun σ' H' ⟨ρ', y, z⟩ => ⟨ds.length - (i + 1), by omega, rfl, hlt, ρ', y, z⟩, fun v H3 y => ?_⟩
    obtain ⟨s3, r3⟩ := g2 v H3 y
    rw [List.drop_eq_getElem_cons hlt] at q2
    unfold forL at q2
    cases e : tf ds[i] ρ2 with
    | none => rw [e] at q2; exact q2.elim
    | some ρ3 =>
      rw [e] at q2
      simp only at q2
      refine tk _ _ ρ2 σ2 H3 v _ ρ3 (x2.grow s3 (A := []) (fun _ z => nomatch z)) r3 e _ fun σ4 x4 k4 _ => ?_
      refine ⟨B1, ρ3, ⟨_, _, b2.trans (ext_s []), x4⟩, pn2.keep fun j hj => k4 j fun m => hj (hpn j m), ?_⟩
      cases eb : b ρ3 with
      | nx ρ5 => rw [eb] at q2; exact fun σ' H' z pz => ⟨ρ5, z, pz, q2⟩
      | ct ρ5 => rw [eb] at q2; exact fun σ' H' z pz => ⟨ρ5, z, pz, q2⟩
      | bk ρ5 => rw [eb] at q2; exact q2
      | rt d => rw [eb] at q2; exact q2
      | rb d ρ5 => rw [eb] at q2; exact q2
      | st => rw [eb] at q2; exact q2
      | ex c ρ5 => rw [eb] at q2; exact q2
  · have e : i = ds.length := by omega
    subst e
    rw [List.drop_length] at q2
    exact .inl ⟨stop (Nat.le_refl _), q2 σ2 H2 ⟨S2, F2, b2, x2⟩ pn2⟩

/-! ### while -/
def whileL (t : Env → R Bool) (b : Env → Sr) : Nat → Env → Sr
  | 0, _ => .st
  | n + 1, ρ => bindS (t ρ) ρ fun c => if c = true then (match b ρ with
      | .nx ρ2 => whileL t b n ρ2
      | .ct ρ2 => whileL t b n ρ2
      | .bk ρ2 => .nx ρ2
      | r => r) else .nx ρ
open Classical in
noncomputable def whileS (t : Env → R Bool) (b : Env → Sr) (ρ : Env) : Sr := if h : ∃ n, whileL t b n ρ ≠ .st then whileL t b (Classical.choose h) ρ else .st
theorem whileL_more {t : Env → R Bool} {b : Env → Sr} : ∀ {n : Nat} {ρ : Env}, whileL t b n ρ ≠ .st → ∀ k, whileL t b (n + k) ρ = whileL t b n ρ
  | 0, ρ, h, k => absurd rfl h
  | n + 1, ρ, h, k => by
    rw [Nat.add_right_comm]
    unfold whileL at h ⊢
    cases e : t ρ with
    | ok c =>
      rw [e] at h
      simp only [bindS_ok] at h ⊢
      cases c with
      | false => rfl
      | true =>
        rw [if_pos rfl] at h ⊢
        cases eb : b ρ with
        | nx ρ2 => rw [eb] at h; exact whileL_more h k
        | ct ρ2 => rw [eb] at h; exact whileL_more h k
        | _ => rfl
    | _ => rfl
theorem whileS_eq {t : Env → R Bool} {b : Env → Sr} {n : Nat} {ρ : Env} (h : whileL t b n ρ ≠ .st) : whileS t b ρ = whileL t b n ρ := by
  have hx : ∃ n, whileL t b n ρ ≠ .st := ⟨n, h⟩
  unfold whileS
  rw [dif_pos hx]
  have h2 := Classical.choose_spec hx
  generalize Classical.choose hx = m at h2
  have a1 := whileL_more h m
  have a2 := whileL_more h2 n
  rw [Nat.add_comm] at a2
  exact a2.symm.trans a1
theorem vs_while {c : Expr} {t : Env → R Bool} (hp : PassesOwn (model X.prog X.w) X.A X.env X.xe) (hc : VT X W c t) (hb : VSs X W own own { ol with l := own } body b) (we : ∀ i ∈ ol.e, i ∈ own := by first | decide | (dsimp only; decide)) : VS X W own own ol (.While c body [] pos) (whileS t b) := ⟨psW (ps_while hp hc.pt hb.ps) fun D σ H ⟨B, ρ, x, pn, q⟩ => by
  unfold whileS at q
  split at q
  · rename_i h
    generalize Classical.choose h = n at q
    refine ⟨fun m σ H => ∃ ρ, Sta own B X.K ρ σ H ∧ Pin ol.P σ ∧ SEnd X.K X.mg W own ol B D (whileL t b m ρ), ⟨n, ρ, x, pn, q⟩, fun m σ2 H2 ⟨ρ2, x2, pn2, q2⟩ => ?_⟩
    cases m with
    | zero => exact q2.elim
    | succ m =>
      unfold whileL at q2
      refine ⟨ρ2, x2.env, (SEnd.out x2 pn2 we q2).mono fun k _ q3 H3 s3 => ?_⟩
      cases k with
      | false => exact q3 σ2 H3 (x2.grow s3) pn2
      | true =>
        refine ⟨fun σ' H' => ∃ ρ', Sta own B X.K ρ' σ' H' ∧ Pin ol.P σ' ∧ SEnd X.K X.mg W own ol B D (whileL t b m ρ'), fun σ' H' ⟨ρ', y, z⟩ => ⟨m, Nat.lt_succ_self _, ρ', y, z⟩, B, ρ2, x2.grow s3, pn2, ?_⟩
        rw [if_pos rfl] at q3
        cases eb : b ρ2 with
        | nx ρ5 => rw [eb] at q3; exact fun σ' H' z pz => ⟨ρ5, z, pz, q3⟩
        | ct ρ5 => rw [eb] at q3; exact fun σ' H' z pz => ⟨ρ5, z, pz, q3⟩
        | bk ρ5 => rw [eb] at q3; exact q3
        | rt d => rw [eb] at q3; exact q3
        | rb d ρ5 => rw [eb] at q3; exact q3
        | st => rw [eb] at q3; exact q3
        | ex c ρ5 => rw [eb] at q3; exact q3
  · exact q.elim⟩
end

/-! ### comprehensions -/
def wipeD (ρ : Env) : List Nat → Env
  | [] => ρ
  | v :: vs => (wipeD ρ vs).set v none
theorem wipeD_some {ρ : Env} {i : Nat} {x : D} : ∀ {vs : List Nat}, (wipeD ρ vs)[i]? = some (some x) → ρ[i]? = some (some x) ∧ i ∉ vs
  | [], h => ⟨h, by simp⟩
  | v :: vs, h => by
    unfold wipeD at h
    rcases get_set h with ⟨_, e, _⟩ | ⟨ne, h⟩
    · cases e
    · obtain ⟨h1, h2⟩ := wipeD_some h
      exact ⟨h1, by simp only [List.mem_cons, not_or]; exact ⟨ne, h2⟩⟩
theorem wipeD_length (ρ : Env) : ∀ vs : List Nat, (wipeD ρ vs).length = ρ.length
  | [] => rfl
  | v :: vs => by unfold wipeD; rw [List.length_set, wipeD_length ρ vs]
theorem wipe_eq {σ τ : L2.St} (hl : σ.length = τ.length) : ∀ {vs : List Nat}, (∀ k, k ∉ vs → σ[k]? = τ[k]?) → wipe σ vs = wipe τ vs := by
  intro vs h
  have in_ : ∀ (σ : L2.St) (vs : List Nat) (k : Nat), k ∈ vs → k < σ.length → (wipe σ vs)[k]? = some none := by
    intro σ vs
    induction vs with
    | nil => intro k hk; cases hk
    | cons v vs ih =>
      intro k hk hl
      unfold wipe
      by_cases e : v = k
      · subst e
        rw [List.getElem?_set_self (by rw [wipe_length]; exact hl)]
      · rw [List.getElem?_set_ne e]
        exact ih k ((List.mem_cons.mp hk).resolve_left (Ne.symm e)) hl
  apply List.ext_getElem?
  intro k
  by_cases hk : k ∈ vs
  · by_cases hlt : k < σ.length
    · rw [in_ σ vs k hk hlt, in_ τ vs k hk (by omega)]
    · rw [List.getElem?_eq_none (by rw [wipe_length]; omega), List.getElem?_eq_none (by rw [wipe_length]; omega)]
  · rw [wipe_out hk, wipe_out hk, h k hk]
theorem wipe_wipe (σ : L2.St) (vs : List Nat) : wipe (wipe σ vs) vs = wipe σ vs := wipe_eq (wipe_length σ vs) fun k hk => wipe_out hk
/-- nothing raised -/
def nox {α : Type} : R α → R α
  | .ex _ => .st
  | r => r
def lcL (vs : List Nat) (tf : D → Env → Option Env) (t : Env → R Bool) (f : Env → R D) (ρ : Env) : List D → R (List D)
  | [] => .ok []
  | d :: ds => match tf d (wipeD ρ vs) with
    | none => .st
    | some ρ1 => (nox (t ρ1)).bind fun c => if c = true then (nox (f ρ1)).bind fun y => (lcL vs tf t f ρ ds).bind fun r => .ok (y :: r) else lcL vs tf t f ρ ds
def lcE (vs : List Nat) (fi : Env → R (List D)) (tf : D → Env → Option Env) (t : Env → R Bool) (f : Env → R D) (ρ : Env) : R D := (fi ρ).bind fun ds => if ds.length ≤ sizeLine then (lcL vs tf t f ρ ds).bind fun r => .ok (.lst r) else .st
def yesT (_ : Env) : R Bool := .ok true
theorem nox_out {α : Type} {mg : Str → Option Value} {σ : L2.St} {H : Hp} {r : R α} {a : α} {P : α → Prop} (h : nox r = .ok a) (p : P a) : Out mg (fun _ _ _ _ => False) σ H r P := by
  cases r with
  | ok b => cases h; exact p
  | ex c => cases h
  | st => cases h
theorem REnv.stx {K : PySem.W.Frag} {ρ : Env} {σ : L2.St} {H : Hp} (h : REnv K ρ σ H) : Stx [] K H (fun _ => []) ρ σ H :=
  ⟨h.len, Same.refl H, fun _ _ e _ _ => e, h.tabs, fun i d q => let ⟨v, h1, h2⟩ := h.val i d q; ⟨v, h1, (fun z => nomatch z), fun _ => h2⟩, (fun _ z => nomatch z), (fun _ z => nomatch z)⟩
theorem REnv.wipe {K : PySem.W.Frag} {ρ : Env} {σ : L2.St} {H : Hp} (h : REnv K ρ σ H) (vs : List Nat) : REnv K (wipeD ρ vs) (L2.wipe σ vs) H := ⟨by rw [wipeD_length, wipe_length]; exact h.len, fun i d q => by
  obtain ⟨q1, q2⟩ := wipeD_some q
  obtain ⟨v, h1, h2⟩ := h.val i d q1
  exact ⟨v, (wipe_out q2).trans h1, h2⟩, h.tabs⟩
theorem nox_ne {α : Type} {r : R α} {c : Str} : nox r ≠ .ex c := fun h => by
  cases r with
  | ok a => cases h
  | st => cases h
  | ex d => cases h
theorem lcL_nx {vs : List Nat} {tf : D → Env → Option Env} {t : Env → R Bool} {f : Env → R D} {ρ : Env} : ∀ (ds : List D) (c : Str), lcL vs tf t f ρ ds ≠ .ex c
  | [], c, h => by cases h
  | d :: ds, c, h => by
    unfold lcL at h
    cases e : tf d (wipeD ρ vs) with
    | none => rw [e] at h; cases h
    | some ρ1 =>
      rw [e] at h
      simp only at h
      cases e1 : nox (t ρ1) with
      | ok k =>
        rw [e1, R.bind_ok] at h
        cases k with
        | true =>
          rw [if_pos rfl] at h
          cases e2 : nox (f ρ1) with
          | ok y =>
            rw [e2, R.bind_ok] at h
            cases e3 : lcL vs tf t f ρ ds with
            | ok r => rw [e3] at h; cases h
            | st => rw [e3] at h; cases h
            | ex c => exact lcL_nx ds c e3
          | st => rw [e2] at h; cases h
          | ex c => exact nox_ne e2
        | false =>
          rw [if_neg Bool.false_ne_true] at h
          exact lcL_nx ds c h
      | st => rw [e1] at h; cases h
      | ex c => exact nox_ne e1
section
variable {X : Cx} {W : WX} {own slots vs : List Nat} {tg : Expr} {fi : Env → R (List D)} {tf : D → Env → Option Env} {t : Env → R Bool} {f : Env → R D} {wi : TI} {g : TG} {tt : TT} {te : TE}
/-- the reading of a comprehension whose elements are new -/
theorem tLc_of {K : PySem.W.Frag} {mg : Str → Option Value} (hK : X.K = K) (hmg : X.mg = mg) (hg : TgOk X [] slots g tf) (hv : ∀ k ∈ slots, k ∈ vs) {σ : L2.St} {H : Hp} {Q : VK} (h : tG K mg W (lcE vs fi tf t f) σ H Q) :
    tLc (tI K mg W [] fi) g (tT K mg (fun _ _ _ _ => False) t) (tG K mg (fun _ _ _ _ => False) f) vs σ H Q := by
  subst hK
  subst hmg
  obtain ⟨ρ, re, o⟩ := h
  refine ⟨ρ, H, fun _ => [], re.stx, (Out.bind o).mono fun ds _ q J H1 A s1 n1 it D hD => ?_⟩
  by_cases hz : ds.length ≤ sizeLine
  rotate_left
  · rw [if_neg hz] at q; exact q.elim
  rw [if_pos hz] at q
  have it : IterOk X.K J (ext H H1 A) ds := it
  have re1 : REnv X.K ρ σ H1 := re.mono s1
  -- the invariant
  refine ⟨fun i m H2 => m = ds.length - i ∧ i ≤ ds.length ∧ ∃ acc ys B, Same H1 H2 ∧ H2 D = some (.lst acc) ∧ Fus X.K H2 acc ys B ∧ D ∉ B ∧ (∀ a ∈ B, H1 a = none) ∧ acc.length ≤ i ∧
      ∃ r, lcL vs tf t f ρ (ds.drop i) = .ok r ∧ ∀ v H' A, Same H H' → Fu X.K H' v (.lst (ys ++ r)) A → (∀ a ∈ A, H a = none) → Q v H', ⟨ds.length, by simp, Nat.zero_le _, [], [], [], new_same hD, upd_same, .nil, (fun z => nomatch z), (fun _ z => nomatch z), Nat.le_refl _, ?_⟩, ?_⟩
  · cases e : lcL vs tf t f ρ ds with
    | ok r => rw [e] at q; exact ⟨r, by rw [List.drop_zero]; exact e, q⟩
    | st => rw [e] at q; exact q.elim
    | ex c =>
      exfalso
      exact lcL_nx ds c e
  · rintro i m H2 ⟨rfl, hi, acc, ys, B, s2, hL, fu, nD, nB, hacc, r, hr, q⟩
    have sx : Same (ext H H1 A) H1 := ext_h s1 A
    have sE : Same (ext H H1 A) (ext (ext H H1 A) H2 []) := ext_s []
    have sF : Same (ext (ext H H1 A) H2 []) H2 := ext_h (sx.trans s2) []
    obtain ⟨go, stop⟩ := it _ H2 i sE sF
    by_cases hlt : i < ds.length
    · obtain ⟨g1, g2⟩ := go ds[i] (List.getElem?_eq_getElem hlt)
      refine .inr ⟨g1, fun H' => ∃ acc ys B, Same H1 H' ∧ H' D = some (.lst acc) ∧ Fus X.K H' acc ys B ∧ D ∉ B ∧ (∀ a ∈ B, H1 a = none) ∧ acc.length ≤ i + 1 ∧
        ∃ r, lcL vs tf t f ρ (ds.drop (i + 1)) = .ok r ∧ ∀ v H' A, Same H H' → Fu X.K H' v (.lst (ys ++ r)) A → (∀ a ∈ A, H a = none) → Q v H', fun H' y => ⟨ds.length - (i + 1), by omega, rfl, hlt, y⟩, fun x H3 y => ?_⟩
      obtain ⟨s3, r3⟩ := g2 x H3 y
      rw [List.drop_eq_getElem_cons hlt] at hr
      unfold lcL at hr
      cases e : tf ds[i] (wipeD ρ vs) with
      | none => rw [e] at hr; cases hr
      | some ρ1 =>
        rw [e] at hr
        simp only at hr
        have re3 := ((re1.mono s2).mono s3).wipe vs
        have rx : Rd X.K H3 x ds[i] := r3.mono (ext_h (sF.trans s3) [])
        refine hg H3 (fun _ => []) (wipeD ρ vs) (wipe σ vs) H3 x _ ρ1 re3.stx rx e _ fun σ4 x4 k4 l4 => ⟨?_, ?_⟩
        · rw [wipe_eq (τ := wipe σ vs) l4 fun k hk => k4 k fun z => hk (hv k z), wipe_wipe]
        · have re4 := x4.env
          cases et : nox (t ρ1) with
          | st => rw [et] at hr; cases hr
          | ex c => rw [et] at hr; cases hr
          | ok k =>
            rw [et, R.bind_ok] at hr
            refine ⟨ρ1, re4, nox_out et fun H5 s5 => ?_⟩
            cases k with
            | false =>
              rw [if_neg Bool.false_ne_true] at hr ⊢
              exact ⟨acc, ys, B, (s2.trans s3).trans s5, s5.mv (s3.mv hL), fu.same (s3.trans s5), nD, nB, Nat.le_succ_of_le hacc, r, hr, q⟩
            | true =>
              rw [if_pos rfl] at hr ⊢
              cases ef : nox (f ρ1) with
              | st => rw [ef] at hr; cases hr
              | ex c => rw [ef] at hr; cases hr
              | ok y =>
                rw [ef, R.bind_ok] at hr
                cases er : lcL vs tf t f ρ (ds.drop (i + 1)) with
                | st => rw [er] at hr; cases hr
                | ex c => rw [er] at hr; cases hr
                | ok r' =>
                  rw [er, R.bind_ok] at hr
                  cases hr
                  refine ⟨ρ1, re4.mono s5, nox_out ef fun v H6 C s6 f6 n6 => ?_⟩
                  have sA : Same H2 H6 := (s3.trans s5).trans s6
                  have hD6 : H6 D = some (.lst acc) := sA.mv hL
                  have nDC : D ∉ C := fun z => by
                    have := n6 D z
                    rw [s5.mv (s3.mv hL)] at this
                    cases this
                  have f1 : Fus X.K H6 (acc ++ [v]) (ys ++ [y]) (B ++ (C ++ [])) := (fu.same sA).app (.cons f6 .nil fun _ _ z => nomatch z) fun a ha hb => by
                    rw [List.append_nil] at hb
                    obtain ⟨o, ho, nt⟩ := fu.thereN a ha
                    have := n6 a hb
                    rw [s5.mv (s3.mv ho nt) nt] at this
                    cases this
                  have nD' : D ∉ B ++ (C ++ []) := fun z => by
                    rw [List.append_nil] at z
                    exact (List.mem_append.mp z).elim nD nDC
                  refine ⟨acc, hD6, Nat.lt_of_le_of_lt hacc (Nat.lt_of_lt_of_le hlt hz), acc ++ [v], ys ++ [y], B ++ (C ++ []), (((s2.trans s3).trans s5).trans s6).put hD (fun o e => by rw [hD6] at e; cases e; exact fun z => z), upd_same, f1.at (fun a ha => upd_ne fun z => nD' (z ▸ ha)) (fun b ot st _ hq => ?_), nD', fun a ha => ?_, ?_, r', rfl, ?_⟩
                  · rw [upd_ne (fun z => by rw [z, hD6] at hq; cases hq; exact st)]
                    exact hq
                  · rw [List.append_nil] at ha
                    rcases List.mem_append.mp ha with z | z
                    · exact nB a z
                    · exact ((s2.trans s3).trans s5).free (n6 a z)
                  · rw [List.length_append, List.length_singleton]; omega
                  · rw [List.append_assoc]; exact q
    · have e : i = ds.length := by omega
      subst e
      rw [List.drop_length] at hr
      cases hr
      refine .inl ⟨stop (Nat.le_refl _), q _ H2 (D :: B) (s1.trans s2) (by rw [List.append_nil]; exact .lst hL fu nD) fun a ha => ?_⟩
      rcases List.mem_cons.mp ha with z | z
      · rw [z]; exact s1.free hD
      · exact s1.free (nB a z)
end
end Vs

namespace Vs
open PySem PySem.Spec PyProof.Rows L2

/-! ### comprehensions as rules -/
abbrev W0 : WX := fun _ _ _ _ => False
structure VTs (X : Cx) (W : WX) (ifs : List Expr) (t : Env → R Bool) : Prop where
  pts : PTs X ifs (tT X.K X.mg W t)
section
variable {X : Cx} {W : WX} {t : Env → R Bool}
theorem ptsW {X : Cx} {e : List Expr} {t u : TT} (h : PTs X e t) (q : ∀ σ H Q, u σ H Q → t σ H Q) : PTs X e u := ⟨fun pins s σ H Q I x => h.run pins s σ H Q I (q σ H Q x)⟩
theorem vts_nil : VTs X W [] yesT := ⟨ptsW pts_nil fun σ H Q ⟨ρ, re, o⟩ => o H (Same.refl H)⟩
theorem vts_one {c : Expr} (h : VT X W c t) : VTs X W [c] t := ⟨pts_one h.pt⟩
end
section
variable {X : Cx} {W : WX} {own0 : List Nat} {ol : Ol} {elt tg iter : Expr} {ifs : List Expr} {scope : Scope} {own : List (Str × Nat)} {slots : List Nat} {pos spos : Pos} {fi : Env → R (List D)} {tf : D → Env → Option Env} {t : Env → R Bool} {f : Env → R D} {g : TG}
theorem vg_lc (hc : X.calm = true) (hN : X.N.Nodup) (hi : VI X W [] tg iter fi) (ok : BlkOk X.N X.env.scope scope own) (tk : TgOk X [] slots g tf)
    (hg : ∀ (s : Shared) (H : Hp) (C : Addr) (cl : List (Str × Addr)) (fp : List Addr), PG (X.blk s H scope (compEnvC scope cl C X.env) fp) tg g)
    (ht : ∀ (s : Shared) (H : Hp) (C : Addr) (cl : List (Str × Addr)) (fp : List Addr), VTs (X.blk s H scope (compEnvC scope cl C X.env) fp) W0 ifs t)
    (he : ∀ (s : Shared) (H : Hp) (C : Addr) (cl : List (Str × Addr)) (fp : List Addr), VG (X.blk s H scope (compEnvC scope cl C X.env) fp) W0 elt f)
    (hv : ∀ k ∈ slots, k ∈ own.map (·.2) := by decide) (hs : ∀ x, foldedSetIterable iter X.env x = pure x := by intro _; rfl) : VG X W (.ListComp elt [⟨tg, iter, ifs, 0⟩] scope pos) (lcE (own.map (·.2)) fi tf t f) :=
  ⟨peW (pe_lc (tt := tT X.K X.mg W0 t) (te := tG X.K X.mg W0 f) hc hN hi.pi ok hg (fun s H C cl fp => (ht s H C cl fp).pts) (fun s H C cl fp => (he s H C cl fp).pe) hs) fun σ H Q q => tLc_of rfl rfl tk hv q⟩
theorem vs_setLc (i : Nat) {y : Str} {py : Pos} (hc : X.calm = true) (hN : X.N.Nodup) (hy : X.N[i]? = some y) (hyl : X.env.scope.names.lookup y = some .local) (hsw : swapsWith (.ListComp elt [⟨tg, iter, ifs, 0⟩] scope pos) (some (.Name y py)) spos.line X.env = pure true)
    (hi : VI X W [] tg iter fi) (ok : BlkOk X.N X.env.scope scope own) (tk : TgOk X [] slots g tf)
    (hg : ∀ (s : Shared) (H : Hp) (C : Addr) (cl : List (Str × Addr)) (fp : List Addr), PG (X.blk s H scope (compEnvC scope cl C X.env) fp) tg g)
    (ht : ∀ (s : Shared) (H : Hp) (C : Addr) (cl : List (Str × Addr)) (fp : List Addr), VTs (X.blk s H scope (compEnvC scope cl C X.env) fp) W0 ifs t)
    (he : ∀ (s : Shared) (H : Hp) (C : Addr) (cl : List (Str × Addr)) (fp : List Addr), VG (X.blk s H scope (compEnvC scope cl C X.env) fp) W0 elt f)
    (hv : ∀ k ∈ slots, k ∈ own.map (·.2) := by decide) (hs : ∀ x, foldedSetIterable iter X.env x = pure x := by intro _; rfl) (we : ∀ i ∈ ol.e, i ∈ own0 := by first | decide | (dsimp only; decide)) (hp : ol.P i = none := by rfl) : VS X W own0 (i :: own0) ol (.Assign [.Name y py] (.ListComp elt [⟨tg, iter, ifs, 0⟩] scope pos) spos) (asgS i (lcE (own.map (·.2)) fi tf t f)) :=
  ⟨psW (ps_setLc (i := i) (tt := tT X.K X.mg W0 t) (te := tG X.K X.mg W0 f) hc hN hy hyl hsw hi.pi ok hg (fun s H C cl fp => (ht s H C cl fp).pts) (fun s H C cl fp => (he s H C cl fp).pe) hs) fun D σ H ⟨B, ρ, x, pn, q⟩ => tLc_of rfl rfl tk hv ⟨ρ, x.env, (SEnd.out x pn we q).mono fun d _ q v H' A s fu n => by
    obtain ⟨S, F, b, y⟩ := x
    exact q _ _ ⟨_, _, b.trans (ext_s []), y.put s fu n i⟩ (pn.set hp)⟩⟩
/-- the target's part of a comprehension -/
theorem tk_name {X : Cx} {own : List Nat} (i : Nat) (hi : i ∉ own := by decide) : TgOk X own [i] (gName i) (tgN i) := fun S F ρ σ H v d ρ' st r e Q q => by
  cases e
  refine q _ (st.lay hi r) (fun k hk => ?_) (by rw [List.length_set])
  rw [List.getElem?_set_ne fun e => hk (List.mem_singleton.mpr e.symm)]
theorem tk_tup {X : Cx} {own : List Nat} (i j : Nat) (hi : i ∉ own := by decide) (hj : j ∉ own := by decide) : TgOk X own [i, j] (gTup X.K 2 (gCons (gName i) (gCons (gName j) gNil))) (tgT i j) := fun S F ρ σ H v d ρ' st r e Q q => by
  unfold tgT at e
  split at e
  · cases e
    cases r with
    | tup h r =>
      obtain ⟨v, w, rfl, h1, h2⟩ := rds2 r
      refine ⟨_, _, rfl, (seqT st.sub h).sq, rfl, v, [w], rfl, w, [], rfl, rfl, ?_⟩
      refine q _ ((st.lay hi h1).lay hj h2) (fun k hk => ?_) (by rw [List.length_set, List.length_set])
      rw [List.getElem?_set_ne fun e => hk (by simp [e]), List.getElem?_set_ne fun e => hk (by simp [e])]
  · cases e
end

/-! ### what changes a list in place -/
section
variable {K : PySem.W.Frag} {S H H' : Hp} {own : List Nat} {F : Nat → List Addr} {ρ : Env} {σ : L2.St} {q p : Addr} {o' : HO}
theorem upd_stt {q : Addr} {o' o : HO} (hq : ∃ o, H q = some o ∧ ¬ Stt o) {b : Addr} (s : Stt o) (h : H b = some o) : upd H q o' b = some o := by
  obtain ⟨u, e, n⟩ := hq
  rw [upd_ne (fun z => by rw [z, e] at h; cases h; exact n s)]
  exact h
theorem upd_seqT (hq : ∃ o, H q = some o ∧ ¬ Stt o) {b : Addr} {xs : List V} (h : TpT K H b xs) : TpT K (upd H q o') b xs := by
  obtain ⟨o, ho, ns⟩ := hq
  refine h.imp (fun h => ?_) id
  rw [upd_ne (fun z => by rw [z, ho] at h; cases h; exact ns trivial)]
  exact h
/-- slot i's data is changed at q -/
theorem Stx.mut (st : Stx own K S F ρ σ H) {i : Nat} {v : V} {d' : D} {A : List Addr} (hi : i ∈ own) (hv : σ[i]? = some (some v)) (hq : ∃ o, H q = some o ∧ ¬ Stt o) (hS : S q = none) (hF : ∀ j ∈ own, j ≠ i → q ∉ F j) (ns : ¬ Stt o')
    (f : Fu K (upd H q o') v d' A) (hA : ∀ a ∈ A, S a = none ∧ ∀ j ∈ own, j ≠ i → a ∉ F j) :
    Stx own K S (fun j => if j = i then A else F j) (ρ.set i (some d')) σ (upd H q o') := by
  refine ⟨by rw [List.length_set]; exact st.len, st.sub.put hS (fun o e => by obtain ⟨o2, e2, n2⟩ := hq; rw [e2] at e; cases e; exact n2), fun a o e t n => ?_, st.tabs, fun j e w => ?_, fun j m a ha => ?_, fun j mj k mk ne a ha => ?_⟩
  · by_cases z : a = q
    · rw [z, upd_same] at e
      cases e
      exact absurd t ns
    · rw [upd_ne z] at e
      exact st.cl a o e t n
  · rcases get_set w with ⟨rfl, e1, hl⟩ | ⟨ne, w⟩
    · cases e1
      refine ⟨v, hv, fun _ => ?_, fun m => absurd hi m⟩
      rw [if_pos rfl]
      exact f
    · obtain ⟨u, h1, h2, h3⟩ := st.val j e w
      refine ⟨u, h1, fun m => ?_, h3⟩
      rw [if_neg ne]
      exact (h2 m).at (fun a ha => upd_ne fun (z : a = q) => hF j m ne (z ▸ ha)) fun b o st _ hs => upd_stt hq st hs
  · by_cases e : j = i
    · rw [if_pos e] at ha
      exact ⟨(hA a ha).1, f.soft a ha⟩
    · rw [if_neg e] at ha
      obtain ⟨h1, o, h2, h3⟩ := st.out j m a ha
      refine ⟨h1, o, ?_, h3⟩
      rw [upd_ne fun (z : a = q) => hF j m e (z ▸ ha)]
      exact h2
  · intro hk
    by_cases ej : j = i
    · rw [if_pos ej] at ha
      have ek : k ≠ i := fun z => ne (ej.trans z.symm)
      rw [if_neg ek] at hk
      exact (hA a ha).2 k mk ek hk
    · rw [if_neg ej] at ha
      by_cases ek : k = i
      · rw [if_pos ek] at hk
        exact (hA a hk).2 j mj ej ha
      · rw [if_neg ek] at hk
        exact st.dis j mj k mk ne a ha hk
/-- what was made since is nobody's -/
theorem Stx.fresh (st : Stx own K S F ρ σ H) (s : Same H H') {v : V} {d : D} {A : List Addr} (f : Fu K H' v d A) (n : ∀ a ∈ A, H a = none) : ∀ a ∈ A, ext S H' [] a = none ∧ ∀ j ∈ own, a ∉ F j := fun a ha => by
  obtain ⟨o, h1, h2⟩ := f.soft a ha
  refine ⟨ext_none (st.sub.free (n a ha)) (fun z => nomatch z) (fun o' e => by rw [h1] at e; cases e; exact h2), fun j m z => ?_⟩
  obtain ⟨_, o2, h3, _⟩ := st.out j m a z
  rw [n a ha] at h3
  cases h3
/-- a list of its own: its address and what stands there -/
theorem Fu.list {v : V} {ds : List D} {A : List Addr} (f : Fu K H v (.lst ds) A) : ∃ p vs A', v = .ref p ∧ A = p :: A' ∧ H p = some (.lst vs) ∧ Fus K H vs ds A' ∧ p ∉ A' := by
  cases f with
  | lst h r n => exact ⟨_, _, _, rfl, rfl, h, r, n⟩
/-- the same list with other items -/
theorem fu_relist {vs' : List V} {ds' : List D} {A' : List Addr} (hp : ∃ o, H p = some o ∧ ¬ Stt o) (r : Fus K H vs' ds' A') (n : p ∉ A') : Fu K (upd H p (.lst vs')) (.ref p) (.lst ds') (p :: A') :=
  .lst upd_same (r.at (fun a ha => upd_ne fun z => n (z ▸ ha)) fun b o st _ hs => upd_stt hp st hs) n
end

def appS (i : Nat) (f : Env → R D) (ρ : Env) : Sr := match ρ[i]? with
  | some (some (.lst ds)) => bindS (f ρ) ρ fun d => if ds.length < sizeLine then .nx (ρ.set i (some (.lst (ds ++ [d])))) else .st
  | _ => .st
def setS (i : Nat) (fk fe : Env → R D) (ρ : Env) : Sr := bindS (fe ρ) ρ fun d => match ρ[i]? with
  | some (some (.lst ds)) => bindS (fk ρ) ρ fun k => match k with
    | .int n => (match ixN ds.length n with
      | some j => .nx (ρ.set i (some (.lst (ds.set j d))))
      | none => .st)
    | _ => .st
  | _ => .st
def clearS (i : Nat) (ρ : Env) : Sr := match ρ[i]? with
  | some (some (.lst _)) => .nx (ρ.set i (some (.lst [])))
  | _ => .st
section
variable {X : Cx} {W : WX} {own own' : List Nat} {ol : Ol} {st : Stmt} {f fk fe : Env → R D}
theorem vs_append (i : Nat) (p : PS X st (tDrop (tBM X.K "list" rAppend (tVar i) (tCons (tG X.K X.mg W f) tNil)))) (hi : i ∈ own := by decide) (we : ∀ i ∈ ol.e, i ∈ own := by first | decide | (dsimp only; decide)) : VS X W own own ol st (appS i f) := ⟨psW p fun D σ H ⟨B, ρ, x, pn, q⟩ => by
  unfold appS at q
  split at q
  · rename_i ds ei
    have q := SEnd.out x pn we q
    obtain ⟨S, F, b, y⟩ := x
    obtain ⟨v, h1, h2, _⟩ := y.val i _ ei
    obtain ⟨pa, vs, A', rfl, eF, hp, r, n⟩ := (h2 hi).list
    refine ⟨_, h1, .inl ⟨rfl, _, .inl (.inl hp)⟩, ρ, y.env, q.mono fun d _ q w H1 C s1 f1 n1 => ?_⟩
    by_cases hz : ds.length < sizeLine
    rotate_left
    · rw [if_neg hz] at q; exact q.elim
    rw [if_pos hz] at q
    refine ⟨pa, vs, w, rfl, rfl, s1.mv hp, by rw [r.length]; exact hz, ?_⟩
    have y1 := y.grow s1 (A := []) (fun _ z => nomatch z)
    have mp : pa ∈ F i := by rw [eF]; exact List.mem_cons_self
    have fr := y.fresh s1 f1 n1
    have hpq : ∃ o, H1 pa = some o ∧ ¬ Stt o := ⟨_, s1.mv hp, fun z => (show False from z)⟩
    have nC : pa ∉ C := fun z => by have := n1 pa z; rw [hp] at this; cases this
    have r1 : Fus X.K H1 (vs ++ [w]) (ds ++ [d]) (A' ++ (C ++ [])) := (r.same s1).app (.cons f1 .nil fun _ _ z => nomatch z) fun a ha hb => by
      rw [List.append_nil] at hb
      exact (fr a hb).2 i hi (by rw [eF]; exact List.mem_cons_of_mem _ ha)
    rw [List.append_nil] at r1
    have n2 : pa ∉ A' ++ C := fun z => (List.mem_append.mp z).elim n nC
    refine q _ _ ⟨_, _, b.trans (ext_s []), y1.mut hi h1 hpq (y1.out i hi pa mp).1 (fun j m ne z => y.dis j m i hi ne pa z mp) (fun z => (show False from z)) (fu_relist hpq r1 n2) fun a ha => ?_⟩ pn
    have old : ∀ a, a ∈ F i → ext S H1 [] a = none ∧ ∀ j ∈ own, j ≠ i → a ∉ F j := fun a hm => ⟨(y1.out i hi a hm).1, fun j m ne z' => y.dis j m i hi ne a z' hm⟩
    rcases List.mem_cons.mp ha with z | z
    · rw [z]
      exact old pa mp
    · rcases List.mem_append.mp z with z | z
      · exact old a (by rw [eF]; exact List.mem_cons_of_mem _ z)
      · exact ⟨(fr a z).1, fun j m _ => (fr a z).2 j m⟩
  · exact q.elim⟩
theorem vs_clear (i : Nat) (p : PS X st (tDrop (tBM0 X.K "list" rClear (tVar i)))) (hi : i ∈ own := by decide) : VS X W own own ol st (clearS i) := ⟨psW p fun D σ H ⟨B, ρ, x, pn, q⟩ => by
  unfold clearS at q
  split at q
  · rename_i ds ei
    obtain ⟨S, F, b, y⟩ := x
    obtain ⟨v, h1, h2, _⟩ := y.val i _ ei
    obtain ⟨pa, vs, A', rfl, eF, hp, r, n⟩ := (h2 hi).list
    have mp : pa ∈ F i := by rw [eF]; exact List.mem_cons_self
    have hpq : ∃ o, H pa = some o ∧ ¬ Stt o := ⟨_, hp, fun z => (show False from z)⟩
    refine ⟨_, h1, .inl ⟨rfl, _, .inl (.inl hp)⟩, pa, vs, rfl, rfl, hp, ?_⟩
    refine q _ _ ⟨_, _, b, y.mut hi h1 hpq (y.out i hi pa mp).1 (fun j m ne z => y.dis j m i hi ne pa z mp) (fun z => (show False from z)) (fu_relist (A' := []) hpq .nil fun z => nomatch z) fun a ha => ?_⟩ pn
    rcases List.mem_cons.mp ha with z | z
    · rw [z]
      exact ⟨(y.out i hi pa mp).1, fun j m ne z' => y.dis j m i hi ne pa z' mp⟩
    · cases z
  · exact q.elim⟩
/-- x[k] = e -/
theorem vs_setItem (i : Nat) (p : PS X st (tAsg (tG X.K X.mg W fe) (gSub (tVar i) (tF X.K X.mg W fk) rSetL))) (hi : i ∈ own := by decide) (we : ∀ i ∈ ol.e, i ∈ own := by first | decide | (dsimp only; decide)) : VS X W own own ol st (setS i fk fe) := ⟨psW p fun D σ H ⟨B, ρ, x, pn, q⟩ => by
  unfold setS at q
  have q := SEnd.out x pn we q
  obtain ⟨S, F, b, y⟩ := x
  refine ⟨ρ, y.env, q.mono fun d _ q w H1 C s1 f1 n1 => ?_⟩
  split at q
  · rename_i ds ei
    have y1 := y.grow s1 (A := []) (fun _ z => nomatch z)
    have fr := y.fresh s1 f1 n1
    have q := SEnd.out (own' := own) (σ := σ) (H := H1) ⟨_, _, b.trans (ext_s []), y1⟩ pn we q
    obtain ⟨v, h1, h2, _⟩ := y1.val i _ ei
    obtain ⟨pa, vs, A', rfl, eF, hp, r, n⟩ := (h2 hi).list
    refine ⟨_, h1, ρ, y1.env, q.mono fun k _ q kv H2 s2 rk => ?_⟩
    split at q
    · rename_i kn hkn
      split at q
      · rename_i jj ej
        cases rk
        have y2 := y1.grow s2 (A := []) (fun _ z => nomatch z)
        have mp : pa ∈ F i := by rw [eF]; exact List.mem_cons_self
        have hpq : ∃ o, H2 pa = some o ∧ ¬ Stt o := ⟨_, s2.mv hp, fun z => (show False from z)⟩
        refine ⟨pa, vs, kn, jj, rfl, rfl, s2.mv hp, by rw [r.length]; exact ej, ?_⟩
        have f2 := f1.same s2
        have nF : ∀ a ∈ C, a ∉ A' := fun a ha z => (fr a ha).2 i hi (by rw [eF]; exact List.mem_cons_of_mem _ z)
        obtain ⟨A2, r2, k2⟩ := Fus.set (A := A') (ds := ds) (vs := vs) f2 (r.same s2) nF jj
        have nC : pa ∉ C := fun z => (fr pa z).2 i hi mp
        have n2 : pa ∉ A2 := fun z => (k2 pa z).elim n nC
        have old : ∀ a, a ∈ F i → ext (ext S H1 []) H2 [] a = none ∧ ∀ j ∈ own, j ≠ i → a ∉ F j := fun a hm => ⟨(y2.out i hi a hm).1, fun j m ne z' => y2.dis j m i hi ne a z' hm⟩
        refine q _ _ ⟨_, _, (b.trans (ext_s [])).trans (ext_s []), y2.mut hi h1 hpq (old pa mp).1 (old pa mp).2 (fun z => (show False from z)) (fu_relist hpq r2 n2) fun a ha => ?_⟩ pn
        rcases List.mem_cons.mp ha with z | z
        · rw [z]
          exact old pa mp
        · rcases k2 a z with z | z
          · exact old a (by rw [eF]; exact List.mem_cons_of_mem _ z)
          · refine ⟨ext_none (fr a z).1 (fun z => nomatch z) (fun o' e => ?_), fun j m _ => (fr a z).2 j m⟩
            obtain ⟨o, g1, g2⟩ := f2.soft a z
            rw [g1] at e; cases e; exact g2
      · exact q.elim
    · exact q.elim
  · exact q.elim⟩
end
end Vs

namespace Vs
open PySem PySem.Spec PyProof.Rows L2

/-! ### range with a step -/
def okRange (i j c : Int) : Prop := c ≠ 0 ∧ c.natAbs < 1073741824 ∧ Builtin.Range.small i j c = true
instance (i j c : Int) : Decidable (okRange i j c) := inferInstanceAs (Decidable (_ ∧ _))
def rngS : List D → R (List D)
  | [.int i, .int j, .int c] => if okRange i j c then .ok (rngC i c (Builtin.Range.rangeSize i j c).toNat) else .st
  | _ => .st
theorem rds3 {K : PySem.W.Frag} {H : Hp} {vs : List V} {d e f : D} (r : Rds K H vs [d, e, f]) : ∃ v w u, vs = [v, w, u] ∧ Rd K H v d ∧ Rd K H w e ∧ Rd K H u f := by
  cases r with
  | cons h r => cases r with
    | cons h2 r => cases r with
      | cons h3 r => cases r; exact ⟨_, _, _, rfl, h, h2, h3⟩
section
variable {X : Cx} {W : WX} {own own' : List Nat} {ol : Ol} {a b c tg : Expr} {fs : Env → R (List D)} {p pos : Pos}
theorem vi_rng3 (hg : Gl X "range") (hm : X.mg "range" = none) (ha : VA X W [a, b, c] fs) (hs : starEach [a, b, c] X.env = (false, eval a X.env) :: starEach [b, c] X.env := by rfl) (hpl : (backTo pos (starEach [b, c] X.env)).any (·.1) = false := by rfl) :
    VI X W own tg (.Call (.Name "range" p) [a, b, c] [] pos) (itR rngS fs) :=
  ⟨piW (pi_range3 hg hm ha.pa hs hpl) fun σ H Q ⟨ρ, S, F, st, o⟩ => ⟨ρ, st.env, (Out.bind o).mono fun ds _ q vs H' s r => by
    unfold rngS at q
    split at q
    · obtain ⟨v, w, u, rfl, h1, h2, h3⟩ := rds3 r
      split at q
      · rename_i c
        cases h1
        cases h2
        cases h3
        exact ⟨_, _, _, _, rfl, ⟨c.1, c.2.1, c.2.2, rangeSize_toNat _ _ _⟩, q _ H' [] s (fun _ z => nomatch z) (it_rngC _ _ _)⟩
      · exact q.elim
    · exact q.elim⟩⟩

/-! ### x += e -/
def augS (i : Nat) (g : D → D → R D) (f : Env → R D) (ρ : Env) : Sr := bindS (varE i ρ) ρ fun d => bindS (f ρ) ρ fun e => bindS (g d e) ρ fun z => .nx (ρ.set i (some z))
theorem vs_aug (i : Nat) {st : Stmt} {r : R2} {g : D → D → R D} {f : Env → R D} (p : PS X st (tAug i (tF X.K X.mg W f) r)) (k : OpD X r g) (n : NoEx2 g) (we : ∀ i ∈ ol.e, i ∈ own := by first | decide | (dsimp only; decide)) (hp : ol.P i = none := by rfl) : VS X W own (i :: own) ol st (augS i g f) := ⟨psW p fun D σ H ⟨B, ρ, x, pn, q⟩ => by
  unfold augS at q
  cases hv : varE i ρ with
  | st => rw [hv] at q; exact q.elim
  | ex c =>
    unfold varE at hv
    split at hv <;> cases hv
  | ok d =>
    rw [hv, bindS_ok] at q
    have q := SEnd.out x pn we q
    obtain ⟨S, F, b, y⟩ := x
    have e : ρ[i]? = some (some d) := by
      unfold varE at hv
      split at hv
      · rename_i e; cases hv; exact e
      · cases hv
    obtain ⟨v, h1, h2⟩ := y.env.val i d e
    refine ⟨v, h1, ρ, y.env, q.mono fun z _ q w H1 s1 r1 => ?_⟩
    cases hg : g d z with
    | st => rw [hg] at q; exact q.elim
    | ex c => exact absurd hg (n d z c)
    | ok u =>
      rw [hg, bindS_ok] at q
      refine k v w d z H1 _ u (h2.mono s1) r1 hg fun u' H2 A s2 f2 n2 => ?_
      exact q _ _ ⟨_, _, b.trans (ext_s []), y.put (s1.trans s2) f2 (fun a m => s1.free (n2 a m)) i⟩ (pn.set hp)⟩
/-- += of ints and texts -/
def rAddI : R2 := fun x y H Q => rI0 (fun i j => .int (i + j)) x y H Q ∨ ∃ i j, x = .str i ∧ y = .str j ∧ i.length + j.length ≤ sizeLine ∧ Q (.str (i ++ j)) H
theorem ip_addA : PIp X .Add rAddI := fun pins s σ H x y v u Q I rx ry h => (iop_add.or iop_add_str) pins s σ H x y v u Q I rx ry h
def addI : D → D → R D
  | .int i, .int j => .ok (.int (i + j))
  | .str x, .str y => if x.length + y.length ≤ sizeLine then .ok (.str (x ++ y)) else .st
  | _, _ => .st
theorem nx_addI : NoEx2 addI := fun d e c h => by unfold addI at h; split at h <;> first | cases h | (split at h <;> cases h)
theorem d_addI : OpD X rAddI addI := fun x y d e H Q z rx ry h q => by
  unfold addI at h
  split at h
  · cases h; cases rx; cases ry
    exact .inl ⟨_, _, rfl, rfl, q _ H [] (Same.refl H) (.int _) (fun _ h => nomatch h)⟩
  · split at h
    · rename_i c
      cases h; cases rx; cases ry
      exact .inr ⟨_, _, rfl, rfl, c, q _ H [] (Same.refl H) (.str _) (fun _ h => nomatch h)⟩
    · cases h
  · cases h
end

/-! ### the text's defs -/
/-- a def of the text, as the top left it -/
def Def (K : PySem.W.Frag) (mg : Str → Option Value) (x : Str) (st : Stmt) : Prop := ∃ f fd, Fun K x x st f fd ∧ mg x = some (.ref f)
/-- a def that keeps its promise -/
def Cal (P : Program) (w : World) (K : PySem.W.Frag) (mg : Str → Option Value) (base : Heap) (x : Str) (ps : List Str) (k : Nat) (m : List D → R D) : Prop :=
  ∃ f fd, mg x = some (.ref f) ∧ PySem.W.keepIn K (.ref f) = true ∧ Binds K fd ps [] ∧ FnOk P w K mg base (L2.CX P w) k f fd ps (spF K mg ps.length m)
section
variable {P : Program} {w : World} {K : PySem.W.Frag} {mg : Str → Option Value} {base : Heap}
theorem cal_mk {x : Str} {st : Stmt} {N ps : List Str} {k : Nat} {own' : List Nat} {b : Env → Sr} (F : Def K mg x st) (S : FnScope N ps (defScope st)) (hps : ps.length ≤ N.length)
    (hb : ∀ (kV doc pm : Value) (an : Option Addr) (cdv ct : Value) (us : List Value), us.length = ps.length → bindArgs (PySem.W.fnOf x x (defArgs st) (defBody st) (defScope st) .none kV doc pm an cdv ct) ⟨us, []⟩ = pure (ps.zip us))
    (hbody : ∀ (f : Addr) (cdv : Value) (A : Around) (outer : List PySem.Env) (s : Shared) (H : Hp) (E : XK), Room k (A.deeper (envOfC x (defScope st) s.heap.objs.size f cdv)) →
      VSs (cxOf (L2.CX P w) P w K mg base N x (defScope st) f cdv A outer s H E) (fun cls d _ H => E cls d H) [] own' nol (defBody st) b) :
    Cal P w K mg base x ps (k + 1) (runB N.length b) := by
  obtain ⟨f, fd, F, h⟩ := F
  exact ⟨f, fd, h, F.kp, F.binds hb, fn_ok F S hps (fun cdv A outer s H E hr => hbody f cdv A outer s H E hr)⟩
theorem vg_fn {X : Cx} {W : WX} {x : Str} {ps : List Str} {k k' : Nat} {m : List D → R D} {p pos : Pos} {e : Expr} {es : List Expr} {fs : Env → R (List D)} (C : Cal X.prog X.w X.K X.mg X.base x ps k m) (hr : Room k' X.A) (tk : Takes X W) (hg : Gl X x)
    (ha : VA X W (e :: es) fs) (hl : LenA fs ps.length) (hk : k ≤ k' := by decide) (hdb : (x == ("__debug__" : Str)) = false := by decide) (he : starEach (e :: es) X.env = (false, eval e X.env) :: starEach es X.env := by rfl) (hpl : (backTo pos (starEach es X.env)).any (·.1) = false := by rfl) :
    VG X W (.Call (.Name x p) (e :: es) [] pos) (callF m fs) := by
  obtain ⟨f, fd, h1, h2, h3, h4⟩ := C
  exact vg_call h4 (hr.mono hk) tk hg h1 h2 h3 ha hl hdb he hpl
end
end Vs

namespace Vs
open PySem PySem.Spec PyProof.Rows L2

/-! ### the end of a law -/
/-- a def of the text in the written part -/
def DefK (K : PySem.W.Frag) (x : Str) (st : Stmt) : Prop := ∃ (f : Addr) (oc : Value) (od : Option Addr) (kV doc pm : Value) (an : Option Addr) (cd ct : Value) (sl : Array (Option Value)),
  PySem.W.nsIn K mainGlobals x = some (some (.ref f)) ∧ K.lookup f = some ⟨oc, od, .func (PySem.W.fnOf x x (defArgs st) (defBody st) (defScope st) .none kV doc pm an cd ct), sl⟩ ∧ PySem.W.codeIn K cd x = true ∧ PySem.W.keepIn K (.ref f) = true
theorem defK_mk {K : PySem.W.Frag} {x : Str} {st : Stmt} {f : Addr} {oc : Value} {od : Option Addr} {kV doc pm : Value} {an : Option Addr} {cd ct : Value} {sl : Array (Option Value)}
    (a : PySem.W.nsIn K mainGlobals x = some (some (.ref f))) (l : K.lookup f = some ⟨oc, od, .func (PySem.W.fnOf x x (defArgs st) (defBody st) (defScope st) .none kV doc pm an cd ct), sl⟩) (c : PySem.W.codeIn K cd x = true) (k : PySem.W.keepIn K (.ref f) = true) : DefK K x st :=
  ⟨f, oc, od, kV, doc, pm, an, cd, ct, sl, a, l, c, k⟩
def NoK (K : PySem.W.Frag) (x : Str) : Prop := PySem.W.nsIn K mainGlobals x = some none
section
variable {K : PySem.W.Frag} {h : Heap} {mg : Str → Option Value} {x : Str} {st : Stmt}
theorem def_of (X : K.In h) (G : h.Ns mainGlobals mg) (d : DefK K x st) : Def K mg x st := by
  obtain ⟨f, oc, od, kV, doc, pm, an, cd, ct, sl, a, l, c, k⟩ := d
  exact ⟨f, _, fun_mk l c k, PySem.W.mg_of X G a⟩
theorem no_of (X : K.In h) (G : h.Ns mainGlobals mg) (d : NoK K x) : mg x = none := PySem.W.mg_none_of X G d
end
/-- the script: at most 63 ints of at most 2^20 bits -/
structure Scr (ns : List Int) : Prop where
  len : ns.length ≤ 63
  bits : ∀ z ∈ ns, Builtin.Int.intBits z ≤ 1048576
def spLaw (K : PySem.W.Frag) : Sp := fun vs H Q _ => ∃ (a : Addr) (ns : List Int), vs = [.ref a] ∧ SqL K H a (ns.map V.int) ∧ Scr ns ∧ ∀ H', Q (.bl true) H'
theorem rds_ints {K : PySem.W.Frag} {H : Hp} : ∀ ns : List Int, Rds K H (ns.map V.int) (ns.map D.int)
  | [] => .nil
  | n :: ns => .cons (.int n) (rds_ints ns)
theorem law_of {P : Program} {w : World} {K : PySem.W.Frag} {mg : Str → Option Value} {base : Heap} {k : Nat} {f : Addr} {fd : FuncData} {ps : List Str} {m : List D → R D}
    (F : FnOk P w K mg base (L2.CX P w) k f fd ps (spF K mg 1 m)) (h : ∀ ns, Scr ns → m [.lst (ns.map D.int)] = .ok (.bl true)) (ht : tabPs = [] := by rfl) : FnOk P w K mg base (L2.CX P w) k f fd ps (spLaw K) :=
  F.imp fun vs H Q E ⟨a, ns, e, hS, hs, q⟩ => by
    subst e
    refine ⟨rfl, (fun P hP => by rw [ht] at hP; cases hP), [.lst (ns.map D.int)], .cons (.lst hS (rds_ints ns)) .nil, ?_⟩
    rw [h ns hs]
    intro v H' A _ f _
    cases f
    exact q H'
theorem walk {l : PySem.W.OpenLaw} {q : Program} {loose : List Str} {XP : (Str → Option Value) → Heap → Prop} {YP : World → Heap → Prop} {d : DefRec} {K : Params → PySem.W.Frag} {k : Nat} (hn : l.most = some 63) (hdf : d.params.defaults = []) (hr : Room k callerA)
    (hY : ∀ (w : World) (h : Heap), YP w h → (K w.params).In h)
    (F : ∀ (w : World) (mg : Str → Option Value) (fa : Addr) (h : Heap), (K w.params).In h → h.Ns mainGlobals mg → mg d.name = some (.ref fa) →
      ∃ fd : FuncData, (∀ (s : Shared) (u : Value), BindsTo s fd ⟨[u], []⟩ [("_law_script", u)]) ∧ ∀ base : Heap, (K w.params).In base → base.Ns mainGlobals mg → FnOk l.prog w (K w.params) mg base (L2.CX l.prog w) k fa fd ["_law_script"] (spLaw (K w.params))) :
    PySem.W.WalkO q loose XP YP l.row.toRowW d [] (fun f vs => PySem.call f vs) :=
  L2.walk_ofB (n := 63) (k := k) (x := "_law_script") (CX := fun w => L2.CX l.prog w) (sp := fun w => spLaw (K w.params)) hn (by decide) hdf hr hY F
    (fun w H a ns hl hb _ hS => ⟨a, ns, rfl, hS, ⟨hl, hb⟩, fun _ => rfl⟩) fun w H s e s' z => by
      obtain ⟨_, _, _, _, _, _, _, _, _, _, _, _, z⟩ := z
      exact z
/-- the law's own def -/
def DefL (K : PySem.W.Frag) (mg : Str → Option Value) (st : Stmt) (fa : Addr) : Prop := ∃ fd, Fun K "law" "law" st fa fd
theorem defL_of {K : PySem.W.Frag} {h : Heap} {mg : Str → Option Value} {st : Stmt} {fa : Addr} (X : K.In h) (G : h.Ns mainGlobals mg) (hfa : mg "law" = some (.ref fa)) (d : DefK K "law" st) : ∃ fd, Fun K "law" "law" st fa fd := by
  obtain ⟨f, oc, od, kV, doc, pm, an, cd, ct, sl, a, l, c, k⟩ := d
  have e := hfa.symm.trans (PySem.W.mg_of X G a)
  cases e
  exact ⟨_, fun_mk l c k⟩
theorem law_end {P : Program} {w : World} {K : PySem.W.Frag} {mg : Str → Option Value} {st : Stmt} {fa : Addr} {N : List Str} {k : Nat} {own' : List Nat} {b : Env → Sr} (d : ∃ fd, Fun K "law" "law" st fa fd) (S : FnScope N ["_law_script"] (defScope st)) (hps : 1 ≤ N.length)
    (hb : ∀ (kV doc pm : Value) (an : Option Addr) (cdv ct : Value) (s : Shared) (v : Value), BindsTo s (PySem.W.fnOf "law" "law" (defArgs st) (defBody st) (defScope st) .none kV doc pm an cdv ct) ⟨[v], []⟩ [("_law_script", v)])
    (hbody : ∀ (base : Heap), K.In base → base.Ns mainGlobals mg → ∀ (f : Addr) (cdv : Value) (A : Around) (outer : List PySem.Env) (s : Shared) (H : Hp) (E : XK), Room k (A.deeper (envOfC "law" (defScope st) s.heap.objs.size f cdv)) →
      VSs (cxOf (L2.CX P w) P w K mg base N "law" (defScope st) f cdv A outer s H E) (fun cls d _ H => E cls d H) [] own' nol (defBody st) b)
    (h : ∀ ns, Scr ns → runB N.length b [.lst (ns.map D.int)] = .ok (.bl true)) (ht : tabPs = [] := by rfl) :
    ∃ fd : FuncData, (∀ (s : Shared) (u : Value), BindsTo s fd ⟨[u], []⟩ [("_law_script", u)]) ∧ ∀ base : Heap, K.In base → base.Ns mainGlobals mg → FnOk P w K mg base (L2.CX P w) (k + 1) fa fd ["_law_script"] (spLaw K) := by
  obtain ⟨fd, F⟩ := d
  refine ⟨fd, fun s u => ?_, fun base h1 h2 => law_of (fn_ok F S hps fun cdv A outer s H E hr => hbody base h1 h2 fa cdv A outer s H E hr) h ht⟩
  obtain ⟨oc, od, kV, doc, pm, an, cdv, ct, osl, rfl, _, _⟩ := F.ex
  exact hb kV doc pm an cdv ct s u
end Vs

namespace Vs
open PySem PySem.Spec PyProof.Rows L2

/-! ### return (x, y): both lists handed out -/
def retV2 (i j : Nat) (ρ : Env) : Sr := match ρ[i]?, ρ[j]? with
  | some (some d), some (some e) => .rt (.tup [d, e])
  | _, _ => .st
section
variable {X : Cx} {W : WX} {own own' : List Nat} {ol : Ol} {pos : Pos}
theorem vs_retV2 (i j : Nat) {x y : Str} {p1 p2 p3 : Pos} {c : Nat} (pi : PE X (.Name x p1) (tVar i)) (pj : PE X (.Name y p2) (tVar j)) (hi : i ∈ own := by decide) (hj : j ∈ own := by decide) (hij : i ≠ j := by decide)
    (h1 : starEach [.Name x p1, .Name y p2] X.env = (false, eval (.Name x p1) X.env) :: starEach [.Name y p2] X.env := by rfl) (h2 : starEach [.Name y p2] X.env = (false, eval (.Name y p2) X.env) :: starEach [] X.env := by rfl) :
    VS X W own own' ol (.Return (some (.Tuple [.Name x p1, .Name y p2] c p3)) pos) (retV2 i j) := ⟨psW (ps_ret (pe_tup (pa_cons pi (pa_cons pj pa_nil h2) h1))) fun D σ H ⟨B, ρ, x, pn, q⟩ => by
  unfold retV2 at q
  split at q
  · rename_i d e hd he
    obtain ⟨S, F, b, y⟩ := x
    obtain ⟨v, a1, a2, _⟩ := y.val i d hd
    obtain ⟨w, b1, b2, _⟩ := y.val j e he
    refine ⟨v, a1, w, b1, le_line (n := 2) rfl (by decide), fun p hp => ?_⟩
    have f : Fus X.K (upd H p (.tup [v, w])) [v, w] [d, e] (F i ++ (F j ++ [])) := .cons ((a2 hi).same (new_same hp)) (.cons ((b2 hj).same (new_same hp)) .nil (fun _ _ h => nomatch h)) (fun a m h => by
      rw [List.append_nil] at h
      exact y.dis i hi j hj hij a m h)
    refine q (.ref p) _ (F i ++ (F j ++ [])) ((b.trans y.sub).trans (new_same hp)) (.tup (.inl upd_same) f) fun a m => ?_
    rw [List.append_nil] at m
    rcases List.mem_append.mp m with m | m
    · exact b.free (y.out i hi a m).1
    · exact b.free (y.out j hj a m).1
  · exact q.elim⟩
end
end Vs

namespace Vs
open PySem PySem.Spec PyProof.Rows L2

/-! ### x.bit_length(), x = y for lists -/
def bitsD : D → R D
  | .int i => .ok (.int (Builtin.Int.intBits i : Nat))
  | _ => .st
def bitsE (f : Env → R D) (ρ : Env) : R D := (f ρ).bind bitsD
def aliasS (i j : Nat) (ρ : Env) : Sr := match ρ[j]? with
  | some (some d) => .nx (ρ.set i (some d))
  | _ => .st
section
variable {X : Cx} {W : WX} {own own' : List Nat} {ol : Ol} {pos : Pos} {a : Expr} {f : Env → R D}
theorem vg_bits {apos : Pos} (ha : VE X W a f) (hbase : attributeBase a "bit_length" X.env (eval a X.env) = eval a X.env := by rfl) (hline : (apos.endLine == pos.line) = true := by rfl) :
    VG X W (.Call (.Attribute a "bit_length" apos) [] [] pos) (bitsE f) := ⟨peW (pe_bits ha.pe hbase hline) fun σ H Q ⟨ρ, re, o⟩ => ⟨ρ, re, (Out.bind o).mono fun d _ q v H1 s1 r1 => by
  unfold bitsD at q
  split at q
  · cases r1
    exact ⟨_, rfl, q _ H1 [] s1 (.int _) (fun _ h => nomatch h)⟩
  · exact q.elim⟩⟩
/-- x = y: neither owns from here on -/
theorem vs_alias (i j : Nat) {x y : Str} {p1 p2 : Pos} (hN : X.N.Nodup) (hi : X.N[i]? = some x) (hx : Loc X.env.scope x) (pj : PE X (.Name y p2) (tVar j)) (hni : i ∉ own' := by decide) (hnj : j ∉ own' := by decide) (w : ∀ k ∈ own', k ∈ own := by decide)
    (hs : swapsWith (.Name y p2) (some (.Name x p1)) pos.line X.env = pure false := by rfl) (hf : X.fn x = true ∨ X.env.scope.names.lookup x = some .local := by first | exact .inl rfl | exact .inr rfl | assumption) (hp : ol.P i = none := by rfl) :
    VS X W own own' ol (.Assign [.Name x p1] (.Name y p2) pos) (aliasS i j) := ⟨psW (ps_set hN hi hx pj hs hf) fun D σ H ⟨B, ρ, x, pn, q⟩ => by
  unfold aliasS at q
  split at q
  · rename_i d hd
    obtain ⟨S, F, b, y⟩ := x.weak w
    obtain ⟨v, a1, _, a2⟩ := y.val j d hd
    exact ⟨v, a1, q _ _ ⟨S, F, b, y.lay hni (a2 hnj)⟩ (pn.set hp)⟩
  · exact q.elim⟩
end
end Vs

namespace Vs
open PySem PySem.Spec PyProof.Rows L2

/-! ### displays as sources -/
section
variable {K : PySem.W.Frag} {H S : Hp}
theorem ext_sup {A B : List Addr} (h : ∀ a ∈ A, a ∈ B) : Same (ext S H A) (ext S H B) := Same.of fun b o e => by
  rcases ext_or e with q | ⟨q, h1, c⟩
  · exact ext_old q
  · exact ext_in h1 q (c.imp id (h b))
variable {X : Cx} {W : WX} {own : List Nat} {es : List Expr} {fs : Env → R (List D)} {pos : Pos}
theorem vp_lst {n : Nat} (ha : VPs X W own es fs) (hl : LenA fs n) (hn : n ≤ 1000 := by decide) : VP X W own (.List es pos) (lstE fs) := ⟨peW (pe_lst ha.pa) fun σ H Q ⟨ρ, S, F, st, o⟩ => ⟨ρ, S, F, st, (Out.bind o).mono fun ds hd q vs H1 A s1 n1 r1 =>
  ⟨le_line (r1.length.trans (hl ρ ds hd)) hn, fun p hp => q _ _ (p :: A) (s1.trans (new_same hp)) (fun a m => (List.mem_cons.mp m).elim (fun z => by rw [z]; exact s1.free hp) fun z => n1 a z)
    (.lst (SqL.of (ext_at ((st.sub.trans s1).trans (new_same hp)) upd_same List.mem_cons_self)) (r1.mono ((ext_mono (A := A) (new_same hp) (st.sub.trans s1)).trans (ext_sup fun a m => List.mem_cons_of_mem _ m))))⟩⟩⟩
end
end Vs

namespace Vs
open PySem PySem.Spec PyProof.Rows L2

/-! ### places within what a slot owns -/
def getP : List Nat → D → Option D
  | [], d => some d
  | k :: p, .lst ds => match ds[k]? with | some e => getP p e | none => none
  | k :: p, .obj _ _ ds => match ds[k]? with | some e => getP p e | none => none
  | _ :: _, _ => none
def setP : List Nat → D → D → Option D
  | [], e, _ => some e
  | k :: p, e, .lst ds => match ds[k]? with | some x => (setP p e x).map fun y => .lst (ds.set k y) | none => none
  | k :: p, e, .obj c ks ds => match ds[k]? with | some x => (setP p e x).map fun y => .obj c ks (ds.set k y) | none => none
  | _ :: _, _, _ => none
def navH (H : Hp) : List Nat → V → V → Prop
  | [], v, w => v = w
  | k :: p, v, w => ∃ a x, v = .ref a ∧ ((∃ vs, H a = some (.lst vs) ∧ vs[k]? = some x) ∨ (∃ C dx fs, H a = some (.ins C dx fs) ∧ (fs.map (·.2))[k]? = some x)) ∧ navH H p x w
theorem navH_mono {H H' : Hp} (s : Same H H') : ∀ {p : List Nat} {v w : V}, navH H p v w → navH H' p v w
  | [], _, _, h => h
  | k :: p, v, w, ⟨a, x, e, h, n⟩ => ⟨a, x, e, h.imp (fun ⟨vs, h1, h2⟩ => ⟨vs, s.mv h1, h2⟩) fun ⟨C, dx, fs, h1, h2⟩ => ⟨C, dx, fs, s.mv h1, h2⟩, navH_mono s n⟩
theorem navH_fun {H : Hp} : ∀ {p : List Nat} {v w w' : V}, navH H p v w → navH H p v w' → w = w'
  | [], _, _, _, h, h' => h.symm.trans h'
  | k :: p, v, w, w', ⟨a, x, e, h, n⟩, ⟨a', x', e', h', n'⟩ => by
    rw [e] at e'
    cases e'
    have ex : x = x' := by
      rcases h with ⟨vs, h1, h2⟩ | ⟨C, dx, fs, h1, h2⟩ <;> rcases h' with ⟨vs', h1', h2'⟩ | ⟨C', dx', fs', h1', h2'⟩ <;> rw [h1] at h1' <;> cases h1' <;> rw [h2] at h2' <;> exact Option.some.inj h2'
    subst ex
    exact navH_fun n n'
theorem navH_app {H : Hp} : ∀ {p q : List Nat} {v w u : V}, navH H p v w → navH H q w u → navH H (p ++ q) v u
  | [], _, _, _, _, h, n => by cases h; exact n
  | k :: p, q, v, w, u, ⟨a, x, e, h, n⟩, m => ⟨a, x, e, h, navH_app n m⟩
theorem getP_app : ∀ {p q : List Nat} {d e : D}, getP p d = some e → getP (p ++ q) d = getP q e
  | [], _, d, e, h => by cases h; rfl
  | k :: p, q, d, e, h => by
    cases d with
    | lst ds =>
      simp only [getP, List.cons_append] at h ⊢
      cases hk : ds[k]? with
      | none => rw [hk] at h; cases h
      | some x => rw [hk] at h; exact getP_app h
    | obj c ks ds =>
      simp only [getP, List.cons_append] at h ⊢
      cases hk : ds[k]? with
      | none => rw [hk] at h; cases h
      | some x => rw [hk] at h; exact getP_app h
    | _ => simp only [getP] at h; cases h
section
variable {K : PySem.W.Frag} {H : Hp}
theorem Fus.focusAt : ∀ {vs : List V} {ds : List D} {A : List Addr} {k : Nat} {x : D}, Fus K H vs ds A → ds[k]? = some x → ∃ v Ak, vs[k]? = some v ∧ Fu K H v x Ak ∧ (∀ a ∈ Ak, a ∈ A) ∧
    ∀ (H' : Hp) (x' : D) (Ak' : List Addr), Fu K H' v x' Ak' → (∀ a ∈ A, a ∉ Ak → H' a = H a) → (∀ b o, Stt o → NTb o → H b = some o → H' b = some o) → (∀ a ∈ Ak', a ∈ A → a ∈ Ak) →
      ∃ A', Fus K H' vs (ds.set k x') A' ∧ ∀ a ∈ A', (a ∈ A ∧ a ∉ Ak) ∨ a ∈ Ak'
  | [], _, _, k, x, .nil, h => by simp at h
  | v :: vs, _ :: _, _, k, x, .cons (A := A1) (B := A2) f r m, h => by
    cases k with
    | zero =>
      simp at h
      subst h
      refine ⟨v, A1, rfl, f, fun a ha => List.mem_append_left _ ha, fun H' x' Ak' g k t dj => ?_⟩
      refine ⟨Ak' ++ A2, .cons g (r.at (fun a ha => k a (List.mem_append_right _ ha) fun z => m a z ha) t) (fun a ha hb => m a (dj a ha (List.mem_append_right _ hb)) hb), fun a ha => ?_⟩
      rcases List.mem_append.mp ha with z | z
      · exact .inr z
      · exact .inl ⟨List.mem_append_right _ z, fun y => m a y z⟩
    | succ k =>
      obtain ⟨w, Ak, h1, h2, h3, h4⟩ := Fus.focusAt r (show _ = some x by simpa using h)
      refine ⟨w, Ak, by simpa using h1, h2, fun a ha => List.mem_append_right _ (h3 a ha), fun H' x' Ak' g k t dj => ?_⟩
      obtain ⟨A', q1, q2⟩ := h4 H' x' Ak' g (fun a ha => k a (List.mem_append_right _ ha)) t (fun a ha hb => dj a ha (List.mem_append_right _ hb))
      refine ⟨A1 ++ A', .cons (f.at (fun a ha => k a (List.mem_append_left _ ha) fun z => m a ha (h3 a z)) t) q1 (fun a ha hb => ?_), fun a ha => ?_⟩
      · rcases q2 a hb with z | z
        · exact m a ha z.1
        · exact m a ha (h3 a (dj a z (List.mem_append_left _ ha)))
      · rcases List.mem_append.mp ha with z | z
        · exact .inl ⟨List.mem_append_left _ z, fun y => m a z (h3 a y)⟩
        · exact (q2 a z).imp (fun y => ⟨List.mem_append_right _ y.1, y.2⟩) id
theorem Fu.focus : ∀ (p : List Nat) {v : V} {d e : D} {A : List Addr}, Fu K H v d A → getP p d = some e → ∃ w B, navH H p v w ∧ Fu K H w e B ∧ (∀ b ∈ B, b ∈ A) ∧
    ∀ (H' : Hp) (e' : D) (B' : List Addr), Fu K H' w e' B' → (∀ a ∈ A, a ∉ B → H' a = H a) → (∀ b o, Stt o → NTb o → H b = some o → H' b = some o) → (∀ a ∈ B', a ∈ A → a ∈ B) →
      ∃ d' A', setP p e' d = some d' ∧ Fu K H' v d' A' ∧ ∀ a ∈ A', (a ∈ A ∧ a ∉ B) ∨ a ∈ B'
  | [], v, d, e, A, f, h => by
    cases h
    exact ⟨v, A, rfl, f, fun _ h => h, fun H' e' B' g _ _ _ => ⟨e', B', rfl, g, fun a ha => .inr ha⟩⟩
  | k :: p, v, d, e, A, f, h => by
    cases f with
    | @lst a vs ds A1 hp r n =>
      simp only [getP] at h
      cases hk : ds[k]? with
      | none => rw [hk] at h; cases h
      | some x =>
        rw [hk] at h
        obtain ⟨u, Ak, h1, h2, h3, h4⟩ := r.focusAt hk
        obtain ⟨w, B, g1, g2, g3, g4⟩ := Fu.focus p h2 h
        refine ⟨w, B, ⟨a, u, rfl, .inl ⟨vs, hp, h1⟩, g1⟩, g2, fun b hb => List.mem_cons_of_mem _ (h3 b (g3 b hb)), fun H' e' B' q keep t dj => ?_⟩
        obtain ⟨x', Ax, y1, y2, y3⟩ := g4 H' e' B' q (fun b hb nb => keep b (List.mem_cons_of_mem _ (h3 b hb)) nb) t (fun b hb hc => dj b hb (List.mem_cons_of_mem _ (h3 b hc)))
        have na : a ∉ Ax := fun z => (y3 a z).elim (fun y => n (h3 a y.1)) fun y => n (h3 a (g3 a (dj a y List.mem_cons_self)))
        obtain ⟨A', z1, z2⟩ := h4 H' x' Ax y2 (fun b hb nb => keep b (List.mem_cons_of_mem _ hb) fun y => nb (g3 b y)) t (fun b hb hc => (y3 b hb).elim (fun y => y.1) fun y => g3 b (dj b y (List.mem_cons_of_mem _ hc)))
        have na' : a ∉ A' := fun z => (z2 a z).elim (fun y => n y.1) na
        refine ⟨.lst (ds.set k x'), a :: A', by simp only [setP]; rw [hk]; simp only [y1, Option.map_some], .lst ((keep a List.mem_cons_self fun y => n (h3 a (g3 a y))).trans hp) z1 na', fun b hb => ?_⟩
        rcases List.mem_cons.mp hb with z | z
        · subst z
          exact .inl ⟨List.mem_cons_self, fun y => n (h3 _ (g3 _ y))⟩
        · rcases z2 b z with y | y
          · exact .inl ⟨List.mem_cons_of_mem _ y.1, fun y' => y.2 (g3 b y')⟩
          · exact (y3 b y).imp (fun y => ⟨List.mem_cons_of_mem _ (h3 b y.1), y.2⟩) id
    | @obj a C dx fs c ks ds A1 hp hx nk hq r n n2 n3 =>
      simp only [getP] at h
      cases hk : ds[k]? with
      | none => rw [hk] at h; cases h
      | some x =>
        rw [hk] at h
        obtain ⟨u, Ak, h1, h2, h3, h4⟩ := r.focusAt hk
        obtain ⟨w, B, g1, g2, g3, g4⟩ := Fu.focus p h2 h
        have up : ∀ {b}, b ∈ A1 → b ∈ a :: dx :: A1 := fun h => List.mem_cons_of_mem _ (List.mem_cons_of_mem _ h)
        refine ⟨w, B, ⟨a, u, rfl, .inr ⟨C, dx, fs, hp, h1⟩, g1⟩, g2, fun b hb => up (h3 b (g3 b hb)), fun H' e' B' q keep t dj => ?_⟩
        obtain ⟨x', Ax, y1, y2, y3⟩ := g4 H' e' B' q (fun b hb nb => keep b (up (h3 b hb)) nb) t (fun b hb hc => dj b hb (up (h3 b hc)))
        have na : a ∉ Ax := fun z => (y3 a z).elim (fun y => n (h3 a y.1)) fun y => n (h3 a (g3 a (dj a y List.mem_cons_self)))
        have nx : dx ∉ Ax := fun z => (y3 dx z).elim (fun y => n2 (h3 dx y.1)) fun y => n2 (h3 dx (g3 dx (dj dx y (List.mem_cons_of_mem _ List.mem_cons_self))))
        obtain ⟨A', z1, z2⟩ := h4 H' x' Ax y2 (fun b hb nb => keep b (up hb) fun y => nb (g3 b y)) t (fun b hb hc => (y3 b hb).elim (fun y => y.1) fun y => g3 b (dj b y (up hc)))
        have na' : a ∉ A' := fun z => (z2 a z).elim (fun y => n y.1) na
        have nx' : dx ∉ A' := fun z => (z2 dx z).elim (fun y => n2 y.1) nx
        refine ⟨.obj c ks (ds.set k x'), a :: dx :: A', by simp only [setP]; rw [hk]; simp only [y1, Option.map_some],
          .obj ((keep a List.mem_cons_self fun y => n (h3 a (g3 a y))).trans hp) ((keep dx (List.mem_cons_of_mem _ List.mem_cons_self) fun y => n2 (h3 dx (g3 dx y))).trans hx) nk hq z1 na' nx' n3, fun b hb => ?_⟩
        rcases List.mem_cons.mp hb with z | z
        · subst z
          exact .inl ⟨List.mem_cons_self, fun y => n (h3 _ (g3 _ y))⟩
        · rcases List.mem_cons.mp z with z | z
          · subst z
            exact .inl ⟨List.mem_cons_of_mem _ List.mem_cons_self, fun y => n2 (h3 _ (g3 _ y))⟩
          · rcases z2 b z with y | y
            · exact .inl ⟨up y.1, fun y' => y.2 (g3 b y')⟩
            · exact (y3 b y).imp (fun y => ⟨up (h3 b y.1), y.2⟩) id
    | _ => simp only [getP] at h; cases h
end
section
variable {K : PySem.W.Frag} {S H : Hp} {own : List Nat} {F : Nat → List Addr} {ρ : Env} {σ : L2.St}
/-- what stands at a place of slot i, and how it is changed there -/
theorem Stx.place (st : Stx own K S F ρ σ H) {i : Nat} {p : List Nat} {d e : D} (hi : i ∈ own) (hd : ρ[i]? = some (some d)) (hg : getP p d = some e) :
    ∃ v w B, σ[i]? = some (some v) ∧ navH H p v w ∧ Fu K H w e B ∧ (∀ b ∈ B, S b = none ∧ b ∈ F i ∧ ∀ j ∈ own, j ≠ i → b ∉ F j) ∧
      ∀ (q : Addr) (o' : HO) (e' : D) (B' : List Addr), q ∈ B → ¬ Stt o' → Fu K (upd H q o') w e' B' → (∀ a ∈ B', a ∈ B ∨ (S a = none ∧ ∀ j ∈ own, a ∉ F j)) →
        ∃ d' F', setP p e' d = some d' ∧ Stx own K S F' (ρ.set i (some d')) σ (upd H q o') := by
  obtain ⟨v, h1, h2, _⟩ := st.val i d hd
  obtain ⟨w, B, g1, g2, g3, g4⟩ := (h2 hi).focus p hg
  refine ⟨v, w, B, h1, g1, g2, fun b hb => ⟨(st.out i hi b (g3 b hb)).1, g3 b hb, fun j hj ne z => st.dis j hj i hi ne b z (g3 b hb)⟩, fun q o' e' B' hq ns f hB => ?_⟩
  have hqo : ∃ o, H q = some o ∧ ¬ Stt o := g2.soft q hq
  obtain ⟨d', A', s1, s2, s3⟩ := g4 (upd H q o') e' B' f (fun a _ nb => upd_ne fun z => nb (z ▸ hq)) (fun b o st _ hs => upd_stt hqo st hs) (fun a ha hA => (hB a ha).elim id fun z => absurd hA (z.2 i hi))
  refine ⟨d', _, s1, st.mut hi h1 hqo (st.out i hi q (g3 q hq)).1 (fun j hj ne z => st.dis j hj i hi ne q z (g3 q hq)) ns s2 fun a ha => ?_⟩
  have old : ∀ a, a ∈ F i → S a = none ∧ ∀ j ∈ own, j ≠ i → a ∉ F j := fun a ha => ⟨(st.out i hi a ha).1, fun j hj ne z => st.dis j hj i hi ne a z ha⟩
  rcases s3 a ha with z | z
  · exact old a z.1
  · rcases hB a z with y | y
    · exact old a (g3 a y)
    · exact ⟨y.1, fun j hj _ => y.2 j hj⟩
end
/-- a place: the slot, and the way to it -/
def tL (K : PySem.W.Frag) (mg : Str → Option Value) (W : WX) (own : List Nat) (i : Nat) (f : Env → R (List Nat)) : TE := fun σ H Q => ∃ ρ S F, Stx own K S F ρ σ H ∧ i ∈ own ∧ Out mg W σ H (f ρ) fun p =>
  (∃ d e, ρ[i]? = some (some d) ∧ getP p d = some e) ∧ ∀ v w H', σ[i]? = some (some v) → Same H H' → navH H' p v w → Q w H'
structure VL (X : Cx) (W : WX) (own : List Nat) (i : Nat) (e : Expr) (f : Env → R (List Nat)) : Prop where
  pe : PE X e (tL X.K X.mg W own i f)
def atP (i : Nat) (p : List Nat) (ρ : Env) : Option D := match ρ[i]? with
  | some (some d) => getP p d
  | _ => none
def noP (_ : Env) : R (List Nat) := .ok []
def ixP (i : Nat) (f : Env → R (List Nat)) (g : Env → R D) (ρ : Env) : R (List Nat) := (f ρ).bind fun p => match atP i p ρ with
  | some (.lst ds) => (g ρ).bind fun k => (match k with
    | .int n => (match ixN ds.length n with
      | some j => .ok (p ++ [j])
      | none => .st)
    | _ => .st)
  | _ => .st
theorem atP_some {i : Nat} {p : List Nat} {ρ : Env} {e : D} (h : atP i p ρ = some e) : ∃ d, ρ[i]? = some (some d) ∧ getP p d = some e := by
  unfold atP at h
  split at h
  · rename_i d hd
    exact ⟨d, hd, h⟩
  · cases h
theorem ixN_at {n : Nat} {k : Int} {j : Nat} (h : ixN n k = some j) : j < n := by
  unfold ixN at h
  repeat' split at h
  all_goals first
    | (cases h; omega)
    | cases h
section
variable {X : Cx} {W : WX} {own own' : List Nat} {ol : Ol} {e a b : Expr} {x : Str} {i : Nat} {f g : Env → R D} {fp : Env → R (List Nat)} {p pos : Pos} {st : Stmt}
theorem vl_var (i : Nat) (q : PE X (.Name x pos) (tVar i)) (hi : i ∈ own := by decide) : VL X W own i (.Name x pos) noP := ⟨peW q fun σ H Q ⟨ρ, S, F, st, hi, o⟩ => by
  obtain ⟨⟨d, e, h1, h2⟩, o⟩ := o
  obtain ⟨v, h3, _⟩ := st.val i d h1
  exact ⟨v, h3, o v v H h3 (Same.refl H) rfl⟩⟩
theorem vl_ix (ha : VL X W own i a fp) (hb : VE X W b g) (hs : PlainIx b) : VL X W own i (.Subscript a b pos) (ixP i fp g) :=
  ⟨peW (pe_ix ix_seq ha.pe hb.pe hs) fun σ H Q ⟨ρ, S, F, st, hi, o⟩ => ⟨ρ, S, F, st, hi, (Out.bind (show Out X.mg W σ H ((fp ρ).bind _) _ from o)).mono fun p _ q => by
    cases ha : atP i p ρ with
    | none => rw [ha] at q; exact q.elim
    | some d0 =>
      rw [ha] at q
      cases d0 with
      | lst ds =>
        obtain ⟨d, hd, hg⟩ := atP_some ha
        refine ⟨⟨d, _, hd, hg⟩, fun v w H1 hv s1 nv => ⟨ρ, st.env.mono s1, ((Out.bind (show Out X.mg W σ H ((g ρ).bind _) _ from q)).up s1).mono fun k _ q u H2 s2 ru => ?_⟩⟩
        cases k with
        | int n =>
          have q : Out X.mg W σ H (match ixN ds.length n with | some j => R.ok (p ++ [j]) | none => R.st) _ := q
          split at q
          · rename_i jj ej
            cases ru
            obtain ⟨v', w', B, e1, e2, e3, _⟩ := st.place hi hd hg
            rw [hv] at e1
            cases e1
            have ew := navH_fun (navH_mono s1 e2) nv
            subst ew
            obtain ⟨pa, vs, A', rfl, _, hp, r, _⟩ := e3.list
            have hj := ixN_at ej
            rw [← r.length] at hj
            obtain ⟨z, hz⟩ : ∃ z, vs[jj]? = some z := ⟨vs[jj], List.getElem?_eq_getElem hj⟩
            have hk := getP_app (q := [jj]) hg
            obtain ⟨y, hy, _⟩ := r.rd.getV hz
            have q : Out X.mg W σ H (R.ok (p ++ [jj])) _ := q
            obtain ⟨_, q⟩ := q
            refine .inl ⟨pa, vs, n, z, rfl, rfl, SqL.of ((s1.trans s2).mv hp), ?_, q v z H2 hv (s1.trans s2) (navH_app (navH_mono s2 nv) ⟨pa, z, rfl, .inl ⟨vs, (s1.trans s2).mv hp, hz⟩, rfl⟩)⟩
            unfold atI
            rw [r.length, ej]
            exact hz
          · exact q.elim
        | _ => exact q.elim
      | _ => exact q.elim⟩⟩
end

/-! ### changes at a place -/
def putP (i : Nat) (p : List Nat) (e : D) (ρ : Env) : Sr := match ρ[i]? with
  | some (some d) => (match setP p e d with
    | some d' => .nx (ρ.set i (some d'))
    | none => .st)
  | _ => .st
def appP (i : Nat) (fp : Env → R (List Nat)) (f : Env → R D) (ρ : Env) : Sr := bindS (fp ρ) ρ fun p => match atP i p ρ with
  | some (.lst ds) => bindS (f ρ) ρ fun d => if ds.length < sizeLine then putP i p (.lst (ds ++ [d])) ρ else .st
  | _ => .st
def setPS (i : Nat) (fp : Env → R (List Nat)) (fk fe : Env → R D) (ρ : Env) : Sr := bindS (fe ρ) ρ fun d => bindS (fp ρ) ρ fun p => match atP i p ρ with
  | some (.lst ds) => bindS (fk ρ) ρ fun k => (match k with
    | .int n => (match ixN ds.length n with
      | some j => putP i p (.lst (ds.set j d)) ρ
      | none => .st)
    | _ => .st)
  | _ => .st
def augPS (i : Nat) (fp : Env → R (List Nat)) (fk fe : Env → R D) (ρ : Env) : Sr := bindS (fp ρ) ρ fun p => match atP i p ρ with
  | some (.lst ds) => bindS (fk ρ) ρ fun k => (match k with
    | .int n => if 0 ≤ n then (match ixN ds.length n with
      | some j => (match ds[j]? with
        | some (.int x) => bindS (fe ρ) ρ fun y => (match y with
          | .int y => putP i p (.lst (ds.set j (.int (x + y)))) ρ
          | _ => .st)
        | _ => .st)
      | none => .st) else .st
    | _ => .st)
  | _ => .st
section
variable {X : Cx} {W : WX} {own own' : List Nat} {ol : Ol} {i : Nat} {f fk fe : Env → R D} {fp : Env → R (List Nat)} {st : Stmt}
/-- a list at a place takes other items -/
theorem put_core {S H : Hp} {F : Nat → List Addr} {ρ : Env} {σ : L2.St} {p : List Nat} {ds : List D} (y : Stx own X.K S F ρ σ H) (hi : i ∈ own) (ha : atP i p ρ = some (.lst ds)) :
    (∃ d e, ρ[i]? = some (some d) ∧ getP p d = some e) ∧ ∃ v l vs, σ[i]? = some (some v) ∧ navH H p v (.ref l) ∧ H l = some (.lst vs) ∧ Rds X.K H vs ds ∧
      ∀ (S1 H1 : Hp) (F1 : Nat → List Addr) (ws : List V) (ds' : List D), Stx own X.K S1 F1 ρ σ H1 → Same H H1 →
        (∀ A, Fus X.K H1 vs ds A → (∀ a ∈ A, S1 a = none ∧ a ∈ F1 i) → l ∉ A → l ∈ F1 i → ∃ A', Fus X.K H1 ws ds' A' ∧ ∀ a ∈ A', a ∈ A ∨ (S1 a = none ∧ ∀ j ∈ own, a ∉ F1 j)) →
        ∃ d' F', putP i p (.lst ds') ρ = .nx (ρ.set i (some d')) ∧ Stx own X.K S1 F' (ρ.set i (some d')) σ (upd H1 l (.lst ws)) := by
  obtain ⟨d, hd, hg⟩ := atP_some ha
  obtain ⟨v, w, A, e1, e2, e3, _⟩ := y.place hi hd hg
  obtain ⟨l, vs, A', rfl, rfl, hl, r, n⟩ := e3.list
  refine ⟨⟨d, _, hd, hg⟩, v, l, vs, e1, e2, hl, r.rd, fun S1 H1 F1 ws ds' y1 s1 k => ?_⟩
  obtain ⟨v', w', A2, g1, g2, g3, g4, g5⟩ := y1.place hi hd hg
  rw [e1] at g1
  cases g1
  have ew := navH_fun (navH_mono s1 e2) g2
  subst ew
  obtain ⟨l', vs', A3, e5, rfl, hl', r', n'⟩ := g3.list
  cases e5
  have ev : vs' = vs := by
    have := s1.mv hl
    rw [hl'] at this
    cases this
    rfl
  subst ev
  obtain ⟨A4, r4, k4⟩ := k A3 r' (fun a ha => ⟨(g4 a (List.mem_cons_of_mem _ ha)).1, (g4 a (List.mem_cons_of_mem _ ha)).2.1⟩) n' (g4 l List.mem_cons_self).2.1
  have n4 : l ∉ A4 := fun z => (k4 l z).elim n' fun z => z.2 i hi (g4 l List.mem_cons_self).2.1
  have hlo : ∃ o, H1 l = some o ∧ ¬ Stt o := ⟨_, hl', fun z => (show False from z)⟩
  obtain ⟨d', F', s2, y2⟩ := g5 l (.lst ws) (.lst ds') (l :: A4) List.mem_cons_self (fun z => (show False from z)) (fu_relist hlo r4 n4) (fun a ha => (List.mem_cons.mp ha).elim (fun z => .inl (by rw [z]; exact List.mem_cons_self)) fun z => (k4 a z).imp (fun z => List.mem_cons_of_mem _ z) id)
  refine ⟨d', F', ?_, y2⟩
  unfold putP
  rw [hd]
  simp only [s2]
/-- the same, and what holds behind it -/
theorem put_list {S H : Hp} {F : Nat → List Addr} {ρ : Env} {σ : L2.St} {B : Hp} {p : List Nat} {ds : List D} (y : Stx own X.K S F ρ σ H) (hi : i ∈ own) (ha : atP i p ρ = some (.lst ds)) :
    (∃ d e, ρ[i]? = some (some d) ∧ getP p d = some e) ∧ ∃ v l vs, σ[i]? = some (some v) ∧ navH H p v (.ref l) ∧ H l = some (.lst vs) ∧ Rds X.K H vs ds ∧
      ∀ (S1 H1 : Hp) (F1 : Nat → List Addr) (ws : List V) (ds' : List D) (En : Ends), Stx own X.K S1 F1 ρ σ H1 → Same H H1 → Same B S1 →
        (∀ A, Fus X.K H1 vs ds A → (∀ a ∈ A, S1 a = none ∧ a ∈ F1 i) → l ∉ A → l ∈ F1 i → ∃ A', Fus X.K H1 ws ds' A' ∧ ∀ a ∈ A', a ∈ A ∨ (S1 a = none ∧ ∀ j ∈ own, a ∉ F1 j)) →
        SEnd X.K X.mg W own ol B En (putP i p (.lst ds') ρ) → Pin ol.P σ → En.nx σ (upd H1 l (.lst ws)) := by
  obtain ⟨g0, v, l, vs, e1, e2, e3, e4, e5⟩ := put_core y hi ha
  refine ⟨g0, v, l, vs, e1, e2, e3, e4, fun S1 H1 F1 ws ds' En y1 s1 b1 k q pn => ?_⟩
  obtain ⟨d', F', h1, h2⟩ := e5 S1 H1 F1 ws ds' y1 s1 k
  rw [h1] at q
  exact q _ _ ⟨_, _, b1, h2⟩ pn
/-- place.append(e) -/
theorem vs_appendP (p : PS X st (tDrop (tBM X.K "list" rAppend (tL X.K X.mg W own i fp) (tCons (tG X.K X.mg W f) tNil)))) (hi : i ∈ own := by decide) (we : ∀ i ∈ ol.e, i ∈ own := by first | decide | (dsimp only; decide)) : VS X W own own ol st (appP i fp f) := ⟨psW p fun En σ H ⟨B, ρ, x, pn, q⟩ => by
  unfold appP at q
  have q := SEnd.out x pn we q
  obtain ⟨S, F, b, y⟩ := x
  refine ⟨ρ, S, F, y, hi, q.mono fun pt _ q => ?_⟩
  cases ha : atP i pt ρ with
  | none => rw [ha] at q; exact q.elim
  | some d0 =>
    rw [ha] at q
    cases d0 with
    | lst ds =>
      obtain ⟨g0, v, l, vs, e1, e2, e3, e4, e5⟩ := put_list (W := W) (ol := ol) (B := B) y hi ha
      refine ⟨g0, fun v' w H1 hv s1 nv => ?_⟩
      rw [e1] at hv
      cases hv
      have ew := navH_fun (navH_mono s1 e2) nv
      subst ew
      have y1 := y.grow s1 (A := []) (fun _ z => nomatch z)
      have q := SEnd.out (own' := own) (σ := σ) (H := H1) ⟨_, _, b.trans (ext_s []), y1⟩ pn we (show SEnd X.K X.mg W own ol B En (bindS (f ρ) ρ _) from q)
      refine ⟨.inl ⟨rfl, _, .inl (.inl (s1.mv e3))⟩, ρ, y1.env, q.mono fun d _ q u H2 C s2 f2 n2 => ?_⟩
      by_cases hz : ds.length < sizeLine
      rotate_left
      · rw [if_neg hz] at q; exact q.elim
      rw [if_pos hz] at q
      have y2 := y1.grow s2 (A := []) (fun _ z => nomatch z)
      have fr := y1.fresh s2 f2 n2
      refine ⟨l, vs, u, rfl, rfl, (s1.trans s2).mv e3, by rw [e4.length]; exact hz, ?_⟩
      refine e5 _ H2 _ _ _ En y2 (s1.trans s2) ((b.trans (ext_s [])).trans (ext_s [])) (fun A r k n m => ?_) q pn
      refine ⟨A ++ (C ++ []), r.app (.cons f2 .nil fun _ _ z => nomatch z) (fun a ha hb => ?_), fun a ha => ?_⟩
      · rw [List.append_nil] at hb
        exact (fr a hb).2 i hi (k a ha).2
      · rw [List.append_nil] at ha
        exact (List.mem_append.mp ha).imp id fun z => fr a z
    | _ => exact q.elim⟩
/-- place[k] = e -/
theorem vs_setP (p : PS X st (tAsg (tG X.K X.mg W fe) (gSub (tL X.K X.mg W own i fp) (tF X.K X.mg W fk) rSetL))) (hi : i ∈ own := by decide) (we : ∀ i ∈ ol.e, i ∈ own := by first | decide | (dsimp only; decide)) : VS X W own own ol st (setPS i fp fk fe) := ⟨psW p fun En σ H ⟨B, ρ, x, pn, q⟩ => by
  unfold setPS at q
  have q := SEnd.out x pn we q
  obtain ⟨S, F, b, y⟩ := x
  refine ⟨ρ, y.env, q.mono fun d _ q u H1 C s1 f1 n1 => ?_⟩
  have y1 := y.grow s1 (A := []) (fun _ z => nomatch z)
  have fr := y.fresh s1 f1 n1
  have b1 := b.trans (ext_s (S := S) (H := H1) [])
  have q := SEnd.out (own' := own) (σ := σ) (H := H1) ⟨_, _, b1, y1⟩ pn we q
  refine ⟨ρ, _, _, y1, hi, q.mono fun pt _ q => ?_⟩
  cases ha : atP i pt ρ with
  | none => rw [ha] at q; exact q.elim
  | some d0 =>
    rw [ha] at q
    cases d0 with
    | lst ds =>
      obtain ⟨g0, v, l, vs, e1, e2, e3, e4, e5⟩ := put_list (W := W) (ol := ol) (B := B) y1 hi ha
      refine ⟨g0, fun v' w H2 hv s2 nv => ?_⟩
      rw [e1] at hv
      cases hv
      have ew := navH_fun (navH_mono s2 e2) nv
      subst ew
      have y2 := y1.grow s2 (A := []) (fun _ z => nomatch z)
      have b2 := b1.trans (ext_s (S := _) (H := H2) [])
      have q := SEnd.out (own' := own) (σ := σ) (H := H2) ⟨_, _, b2, y2⟩ pn we (show SEnd X.K X.mg W own ol B En (bindS (fk ρ) ρ _) from q)
      refine ⟨ρ, y2.env, q.mono fun k _ q kv H3 s3 rk => ?_⟩
      cases k with
      | int n =>
        have q : SEnd X.K X.mg W own ol B En (match ixN ds.length n with | some j => putP i pt (.lst (ds.set j d)) ρ | none => .st) := q
        cases ej : ixN ds.length n with
        | none => rw [ej] at q; exact q.elim
        | some j =>
          rw [ej] at q
          cases rk
          have y3 := y2.grow s3 (A := []) (fun _ z => nomatch z)
          have f3 := (f1.same s2).same s3
          refine ⟨l, vs, n, j, rfl, rfl, (s2.trans s3).mv e3, by rw [e4.length]; exact ej, ?_⟩
          have fr3 : ∀ a ∈ C, ext (ext (ext S H1 []) H2 []) H3 [] a = none ∧ ∀ j ∈ own, a ∉ F j := fun a ha => by
            obtain ⟨o, h1, h2⟩ := f3.soft a ha
            obtain ⟨o1, h3, h4⟩ := f1.soft a ha
            have h5 := (fr a ha).1
            refine ⟨ext_none (ext_none h5 (fun z => nomatch z) (fun o' e => ?_)) (fun z => nomatch z) (fun o' e => ?_), (fr a ha).2⟩
            · rw [s2.mv h3 (nst h4)] at e; cases e; exact h4
            · rw [h1] at e; cases e; exact h2
          refine e5 _ H3 _ _ _ En y3 (s2.trans s3) (b2.trans (ext_s [])) (fun A r k n m => ?_) q pn
          obtain ⟨A', r', k'⟩ := Fus.set (vs := vs) (ds := ds) (A := A) f3 r (fun a ha z => (fr3 a ha).2 i hi (k a z).2) j
          exact ⟨A', r', fun a ha => (k' a ha).imp id fun z => fr3 a z⟩
      | _ => exact q.elim
    | _ => exact q.elim⟩
/-- o[i], by values -/
def rGetL (K : PySem.W.Frag) : V → V → Hp → VK → Prop := fun o i H Q => ∃ p xs k v, o = .ref p ∧ i = .int k ∧ SqL K H p xs ∧ 0 ≤ k ∧ atI xs k = some v ∧ Q v H
theorem get_list : PGet X (rGetL X.K) := by
  intro pins s σ H o i ov iv Q I ro ri h
  obtain ⟨p, xs, k, z, rfl, rfl, hq, h0, he, q⟩ := h
  cases ro
  obtain ⟨t, rfl⟩ := ri
  obtain ⟨its, r, pl, hz⟩ := I.list hq
  obtain ⟨j, h1, h2, h3, h4, h5⟩ := atI_get he
  obtain ⟨w, ew, rw'⟩ := r.get h2
  have hl := r.length
  have hn := line63
  have hj : k.toNat = j := by
    rw [seqIndex_of h0 h5] at h1
    exact Option.some.inj h1
  exact wpAny_getItem_list pl.isList h0 (by omega) (by rw [hj]; simpa using ew) ⟨z, H, I, rw', q⟩
end
end Vs

namespace PySem.AutoSeq1
theorem list_extendW (l : Addr) (items : Array Value) (n : Nat) (b : Addr) (items2 : Array Value) (n2 : Nat) (sl : Array (Option Value)) (hc0 : ¬(!items.isEmpty && Builtin.List.listTooLong (items.size + items2.size)) = true) (hc1 : items.size ≤ sizeLine) (hs2 : items.size + items2.size ≤ sizeLine + 1 := by seq_fits) :
    Meets (Builtin.«list.extend» ⟨[.ref l, .ref b], []⟩) (fun _ R s => s.heap.get? l = some { cls := .type "list", dict := none, data := .seq items n, slots := #[] } ∧ s.heap.get? b = some { cls := .type "list", dict := none, data := .seq items2 n2, slots := sl } ∧ R (.ok (.ret Value.none)) { s with heap := s.heap.update l (Obj.mapSeq fun x => x ++ items2), toks := s.toks }) :=
  .of_wp fun prog w A R s h => by
    obtain ⟨hp, g, d, tk, os⟩ := s; obtain ⟨hl, hb, h⟩ := h; have f1 := idx_int; have f2 := sub_tuple_tuple; have f3 := sub_list_list; have f4 := sub_tuple_list; have f5 := sub_list_tuple;
    have hz' : (items ++ items2).size ≤ sizeLine + 1 := by rw [Array.size_append]; exact hs2
    wp_walk using (wpAny_updateSeq hl rfl (hz := hc1) (_hz' := hz')), wpAny_loadPart' hl, wpAny_loadPart' hb; exact ⟨_, rfl, h⟩
end PySem.AutoSeq1
namespace Vs
open PySem PySem.Spec PyProof.Rows L2
section
variable {X : Cx}
def rExtendS (K : PySem.W.Frag) : V → List V → Hp → VK → Prop := fun x vs H Q => ∃ l b xs zs, x = .ref l ∧ vs = [.ref b] ∧ H l = some (.lst xs) ∧ SqL K H b zs ∧ xs.length + zs.length ≤ sizeLine ∧ Q .non (upd H l (.lst (xs ++ zs)))
theorem mt_extendS : MtM X "list.extend" (rExtendS X.K) := by
  intro pins s σ H x vs v us Q I rx rv h
  obtain ⟨l, b, xs, zs, rfl, rfl, hH, hB, hz, q⟩ := h
  cases rx
  obtain ⟨u, rfl, ru⟩ := rv.one
  cases ru
  obtain ⟨z, its, n, r, hl, e⟩ := I.lstM hH
  obtain ⟨its2, r2, ⟨o2, n2, ho2, hc2, hdc2, hd2⟩, z2⟩ := I.list hB
  have hl2 := r2.length
  obtain ⟨cls2, dd2, data2, sl2⟩ := o2
  simp only at hc2 hd2 hdc2
  subst hc2 hd2 hdc2
  have hsz : its.toArray.size + its2.toArray.size ≤ sizeLine := by rw [List.size_toArray, List.size_toArray]; omega
  have hlong : ¬ (!its.toArray.isEmpty && Builtin.List.listTooLong (its.toArray.size + its2.toArray.size)) = true := by
    rw [notLongL hsz, Bool.and_false]
    exact Bool.false_ne_true
  refine call_meets F.slot_list_extend ⟨_, e, rfl⟩ F.entry_list_extend (F.args_list_extend_2 _ _)
    (AutoSeq1.list_extendW l its.toArray n b its2.toArray n2 sl2 hlong (by rw [List.size_toArray]; omega) (by omega)) ⟨e, ho2, ?_⟩
  refine ⟨.non, _, I.lset (its' := its ++ its2) hH e (by simp) (r.append r2) ?_, rfl, q⟩
  rw [List.length_append]
  omega
end
theorem immDs_all : ∀ {xs : List D}, immDs xs = true ↔ ∀ x ∈ xs, immD x = true
  | [] => by rw [immDs]; simp
  | x :: xs => by rw [immDs, Bool.and_eq_true, immDs_all (xs := xs)]; simp
def extP (i : Nat) (fp : Env → R (List Nat)) (f : Env → R D) (ρ : Env) : Sr := bindS (fp ρ) ρ fun p => match atP i p ρ with
  | some (.lst ds) => bindS (f ρ) ρ fun d => (match d with
    | .lst es => if ds.length + es.length ≤ sizeLine ∧ immDs es = true then putP i p (.lst (ds ++ es)) ρ else .st
    | _ => .st)
  | _ => .st
/-- several names at once -/
def putAll : List Nat → List D → Env → Env
  | i :: is, d :: ds, ρ => putAll is ds (ρ.set i (some d))
  | _, _, ρ => ρ
def unpR (n : Nat) (d : D) : R (List D) := match d with
  | .tup ds => if ds.length = n then .ok ds else .st
  | _ => .st
def unpS (is : List Nat) (f : Env → R D) (ρ : Env) : Sr := bindS ((f ρ).bind (unpR is.length)) ρ fun ds => .nx (putAll is ds ρ)
def Sr.seq : Sr → (Env → Sr) → Sr
  | .nx ρ, b => b ρ
  | r, _ => r
def popS (i : Nat) (fp : Env → R (List Nat)) (is : List Nat) (ρ : Env) : Sr := bindS (fp ρ) ρ fun p => match atP i p ρ with
  | some (.lst ds) => (match ds[ds.length - 1]? with
    | some d => if immD d = true then bindS (unpR is.length d) ρ fun es => (putP i p (.lst ds.dropLast) ρ).seq fun ρ' => .nx (putAll is es ρ') else .st
    | none => .st)
  | _ => .st
def gNames : List Nat → TGs
  | [] => gNil
  | i :: is => gCons (gName i) (gNames is)
section
variable {K : PySem.W.Frag} {S H : Hp} {own : List Nat} {F : Nat → List Addr} {ρ : Env} {σ : L2.St}
theorem Stx.put2 (h : Stx own K S F ρ σ H) {v : V} {d : D} {A : List Addr} (f : Fu K H v d A) (hA : ∀ a ∈ A, S a = none ∧ ∀ j ∈ own, a ∉ F j) (i : Nat) :
    Stx (i :: own) K S (fun j => if j = i then A else F j) (ρ.set i (some d)) (σ.set i (some v)) H := by
  refine ⟨by rw [List.length_set, List.length_set]; exact h.len, h.sub, h.cl, h.tabs, fun j e q => ?_, fun j m a ha => ?_, fun j mj k mk ne a ha => ?_⟩
  · rcases get_set q with ⟨rfl, e1, hl⟩ | ⟨ne, q⟩
    · cases e1
      refine ⟨v, ?_, fun _ => ?_, fun m => absurd List.mem_cons_self m⟩
      · rw [List.getElem?_set_self (by rw [← h.len]; exact hl)]
      · rw [if_pos rfl]; exact f
    · obtain ⟨u, h1, h2, h3⟩ := h.val j e q
      refine ⟨u, by rw [List.getElem?_set_ne (Ne.symm ne)]; exact h1, fun m => ?_, fun m => h3 fun z => m (List.mem_cons_of_mem _ z)⟩
      rw [if_neg ne]
      exact h2 ((List.mem_cons.mp m).resolve_left ne)
  · by_cases e : j = i
    · rw [if_pos e] at ha
      exact ⟨(hA a ha).1, f.soft a ha⟩
    · rw [if_neg e] at ha
      exact h.out j ((List.mem_cons.mp m).resolve_left e) a ha
  · intro hk
    by_cases ej : j = i
    · rw [if_pos ej] at ha
      have ek : k ≠ i := fun z => ne (ej.trans z.symm)
      rw [if_neg ek] at hk
      exact (hA a ha).2 k ((List.mem_cons.mp mk).resolve_left ek) hk
    · rw [if_neg ej] at ha
      by_cases ek : k = i
      · rw [if_pos ek] at hk
        exact (hA a hk).2 j ((List.mem_cons.mp mj).resolve_left ej) ha
      · rw [if_neg ek] at hk
        exact h.dis j ((List.mem_cons.mp mj).resolve_left ej) k ((List.mem_cons.mp mk).resolve_left ek) ne a ha hk
theorem names_put {Q : L2.St → Hp → Prop} : ∀ {is : List Nat} {vs : List V} {ds : List D} {A : List Addr} {own : List Nat} {F : Nat → List Addr} {ρ : Env} {σ : L2.St}, Stx own K S F ρ σ H → Fus K H vs ds A → (∀ a ∈ A, S a = none ∧ ∀ j ∈ own, a ∉ F j) → ds.length = is.length →
    (∀ σ' F', Stx (is.reverse ++ own) K S F' (putAll is ds ρ) σ' H → (∀ k, k ∉ is → σ'[k]? = σ[k]?) → Q σ' H) → gNames is vs σ H Q
  | [], _, _, _, own, F, ρ, σ, st, f, hA, hl, q => by
    cases f with
    | nil => exact ⟨rfl, q σ F st fun _ _ => rfl⟩
    | cons _ _ _ => cases hl
  | i :: is, _, _, _, own, F, ρ, σ, st, f, hA, hl, q => by
    cases f with
    | nil => cases hl
    | @cons v vs d ds A B h r m =>
      refine ⟨v, vs, rfl, ?_⟩
      refine names_put (st.put2 h (fun a ha => hA a (List.mem_append_left _ ha)) i) r (fun a ha => ⟨(hA a (List.mem_append_right _ ha)).1, fun j mj => ?_⟩) (by simpa using hl) fun σ' F' st' k' => ?_
      · by_cases e : j = i
        · rw [if_pos e]
          exact fun z => m a z ha
        · rw [if_neg e]
          exact (hA a (List.mem_append_right _ ha)).2 j ((List.mem_cons.mp mj).resolve_left e)
      · refine q σ' F' ?_ fun k hk => ?_
        · rw [List.reverse_cons, List.append_assoc]
          exact st'
        · rw [k' k fun z => hk (List.mem_cons_of_mem _ z), List.getElem?_set_ne fun e => hk (by rw [← e]; exact List.mem_cons_self)]
theorem names_lay {Q : L2.St → Hp → Prop} : ∀ {is : List Nat} {vs : List V} {ds : List D} {ρ : Env} {σ : L2.St}, Stx own K S F ρ σ H → Rds K S vs ds → ds.length = is.length → (∀ i ∈ is, i ∉ own) →
    (∀ σ', Stx own K S F (putAll is ds ρ) σ' H → (∀ k, k ∉ is → σ'[k]? = σ[k]?) → σ'.length = σ.length → Q σ' H) → gNames is vs σ H Q
  | [], _, _, ρ, σ, st, f, hl, hn, q => by
    cases f with
    | nil => exact ⟨rfl, q σ st (fun _ _ => rfl) rfl⟩
    | cons _ _ => cases hl
  | i :: is, _, _, ρ, σ, st, f, hl, hn, q => by
    cases f with
    | nil => cases hl
    | @cons v vs d ds h r =>
      refine ⟨v, vs, rfl, ?_⟩
      refine names_lay (st.lay (hn i List.mem_cons_self) h) r (by simpa using hl) (fun j hj => hn j (List.mem_cons_of_mem _ hj)) fun σ' st' k' l' => q σ' st' (fun k hk => ?_) (by rw [l', List.length_set])
      rw [k' k fun z => hk (List.mem_cons_of_mem _ z), List.getElem?_set_ne fun e => hk (by rw [← e]; exact List.mem_cons_self)]
end
def tgTs (is : List Nat) (d : D) (ρ : Env) : Option Env := match d with
  | .tup ds => if ds.length = is.length then some (putAll is ds ρ) else none
  | _ => none
theorem tk_tups {X : Cx} {own : List Nat} (is : List Nat) {n : Nat} (hn : n = is.length) (hi : ∀ i ∈ is, i ∉ own) : TgOk X own is (gTup X.K n (gNames is)) (tgTs is) := fun S F ρ σ H v d ρ' st r e Q q => by
  unfold tgTs at e
  split at e
  · split at e
    · rename_i hl
      cases e
      cases r with
      | tup h r =>
        refine ⟨_, _, rfl, (seqT st.sub h).sq, by rw [r.length, hl, hn], names_lay st r hl hi fun σ' st' k' l' => q σ' st' k' l'⟩
    · cases e
  · cases e
section
variable {X : Cx} {W : WX} {own own' : List Nat} {ol : Ol} {i : Nat} {f fk fe : Env → R D} {fp : Env → R (List Nat)} {st : Stmt}
/-- a, b, .. = e -/
theorem vs_unpack (is : List Nat) {n : Nat} (p : PS X st (tAsg (tG X.K X.mg W f) (gTup X.K n (gNames is)))) (hn : n = is.length) (we : ∀ i ∈ ol.e, i ∈ own := by first | decide | (dsimp only; decide)) (hpn : ∀ i ∈ is, ol.P i = none := by first | exact (fun _ _ => rfl) | (intro i hi; simp only [List.mem_cons, List.not_mem_nil, or_false] at hi; (repeat' (rcases hi with rfl | hi)) <;> first | rfl | (subst hi; rfl))) : VS X W own (is.reverse ++ own) ol st (unpS is f) := ⟨psW p fun En σ H ⟨B, ρ, x, pn, q⟩ => by
  unfold unpS at q
  have q := SEnd.out x pn we q
  obtain ⟨S, F, b, y⟩ := x
  refine ⟨ρ, y.env, (Out.bind q).mono fun d _ q v H1 A s1 f1 n1 => ?_⟩
  unfold unpR at q
  cases d with
  | tup ds =>
    have q : Out X.mg W σ H (if ds.length = is.length then R.ok ds else R.st) _ := q
    by_cases hl : ds.length = is.length
    · rw [if_pos hl] at q
      cases f1 with
      | tup h r =>
        have y1 := y.grow s1 (A := []) (fun _ z => nomatch z)
        refine ⟨_, _, rfl, TpT.sq h, by rw [r.length, hl, hn], names_put y1 r (fun a ha => ?_) hl fun σ' F' st' k' => q _ _ ⟨_, _, b.trans (ext_s []), st'⟩ (pn.keep fun j hj => k' j fun m => hj (hpn j m))⟩
        exact y.fresh s1 (.tup h r) n1 a ha
    · rw [if_neg hl] at q; exact q.elim
  | _ => exact q.elim⟩
/-- place.extend(e) -/
theorem vs_extendP (p : PS X st (tDrop (tBM X.K "list" (rExtendS X.K) (tL X.K X.mg W own i fp) (tCons (tF X.K X.mg W f) tNil)))) (hi : i ∈ own := by decide) (we : ∀ i ∈ ol.e, i ∈ own := by first | decide | (dsimp only; decide)) : VS X W own own ol st (extP i fp f) := ⟨psW p fun En σ H ⟨B, ρ, x, pn, q⟩ => by
  unfold extP at q
  have q := SEnd.out x pn we q
  obtain ⟨S, F, b, y⟩ := x
  refine ⟨ρ, S, F, y, hi, q.mono fun pt _ q => ?_⟩
  cases ha : atP i pt ρ with
  | none => rw [ha] at q; exact q.elim
  | some d0 =>
    rw [ha] at q
    cases d0 with
    | lst ds =>
      obtain ⟨g0, v, l, vs, e1, e2, e3, e4, e5⟩ := put_list (W := W) (ol := ol) (B := B) y hi ha
      refine ⟨g0, fun v' w H1 hv s1 nv => ?_⟩
      rw [e1] at hv
      cases hv
      have ew := navH_fun (navH_mono s1 e2) nv
      subst ew
      have y1 := y.grow s1 (A := []) (fun _ z => nomatch z)
      have q := SEnd.out (own' := own) (σ := σ) (H := H1) ⟨_, _, b.trans (ext_s []), y1⟩ pn we (show SEnd X.K X.mg W own ol B En (bindS (f ρ) ρ _) from q)
      refine ⟨.inl ⟨rfl, _, .inl (.inl (s1.mv e3))⟩, ρ, y1.env, q.mono fun d _ q u H2 s2 r2 => ?_⟩
      cases d with
      | lst es =>
        have q : SEnd X.K X.mg W own ol B En (if ds.length + es.length ≤ sizeLine ∧ immDs es = true then putP i pt (.lst (ds ++ es)) ρ else .st) := q
        by_cases hz : ds.length + es.length ≤ sizeLine ∧ immDs es = true
        rotate_left
        · rw [if_neg hz] at q; exact q.elim
        rw [if_pos hz] at q
        have y2 := y1.grow s2 (A := []) (fun _ z => nomatch z)
        cases r2 with
        | @lst l2 ws _ h2 r2 =>
          refine ⟨l, l2, vs, ws, rfl, rfl, (s1.trans s2).mv e3, h2, by rw [e4.length, r2.length]; exact hz.1, ?_⟩
          refine e5 _ H2 _ _ _ En y2 (s1.trans s2) ((b.trans (ext_s [])).trans (ext_s [])) (fun A r k n m => ?_) q pn
          exact ⟨A ++ [], r.app (r2.fu hz.2) (fun a ha hb => nomatch hb), fun a ha => by rw [List.append_nil] at ha; exact .inl ha⟩
      | _ => exact q.elim
    | _ => exact q.elim⟩
/-- place[k] += e, ints -/
theorem vs_augP (p : PS X st (tAugS (tL X.K X.mg W own i fp) (tF X.K X.mg W fk) (tF X.K X.mg W fe) (rGetL X.K) (ipI fun i j => i + j) rSetL)) (hi : i ∈ own := by decide) (we : ∀ i ∈ ol.e, i ∈ own := by first | decide | (dsimp only; decide)) : VS X W own own ol st (augPS i fp fk fe) := ⟨psW p fun En σ H ⟨B, ρ, x, pn, q⟩ => by
  unfold augPS at q
  have q := SEnd.out x pn we q
  obtain ⟨S, F, b, y⟩ := x
  refine ⟨ρ, S, F, y, hi, q.mono fun pt _ q => ?_⟩
  cases ha : atP i pt ρ with
  | none => rw [ha] at q; exact q.elim
  | some d0 =>
    rw [ha] at q
    cases d0 with
    | lst ds =>
      obtain ⟨g0, v, l, vs, e1, e2, e3, e4, e5⟩ := put_list (W := W) (ol := ol) (B := B) y hi ha
      refine ⟨g0, fun v' w H1 hv s1 nv => ?_⟩
      rw [e1] at hv
      cases hv
      have ew := navH_fun (navH_mono s1 e2) nv
      subst ew
      have y1 := y.grow s1 (A := []) (fun _ z => nomatch z)
      have b1 := b.trans (ext_s (S := S) (H := H1) [])
      have q := SEnd.out (own' := own) (σ := σ) (H := H1) ⟨_, _, b1, y1⟩ pn we (show SEnd X.K X.mg W own ol B En (bindS (fk ρ) ρ _) from q)
      refine ⟨ρ, y1.env, q.mono fun k _ q kv H2 s2 rk => ?_⟩
      cases k with
      | int n =>
        have q : SEnd X.K X.mg W own ol B En (if 0 ≤ n then (match ixN ds.length n with
          | some j => (match ds[j]? with
            | some (.int x) => bindS (fe ρ) ρ fun y => (match y with
              | .int y => putP i pt (.lst (ds.set j (.int (x + y)))) ρ
              | _ => .st)
            | _ => .st)
          | none => .st) else .st) := q
        by_cases h0 : 0 ≤ n
        rotate_left
        · rw [if_neg h0] at q; exact q.elim
        rw [if_pos h0] at q
        cases ej : ixN ds.length n with
        | none => rw [ej] at q; exact q.elim
        | some j =>
          rw [ej] at q
          cases rk
          have y2 := y1.grow s2 (A := []) (fun _ z => nomatch z)
          have b2 := b1.trans (ext_s (S := _) (H := H2) [])
          have q : SEnd X.K X.mg W own ol B En (match ds[j]? with
            | some (.int x) => bindS (fe ρ) ρ fun y => (match y with
              | .int y => putP i pt (.lst (ds.set j (.int (x + y)))) ρ
              | _ => .st)
            | _ => .st) := q
          cases ex : ds[j]? with
          | none => rw [ex] at q; exact q.elim
          | some x0 =>
            rw [ex] at q
            cases x0 with
            | int x =>
              obtain ⟨xv, hx1, hx2⟩ := e4.get ex
              cases hx2
              refine ⟨l, vs, n, .int x, rfl, rfl, SqL.of ((s1.trans s2).mv e3), h0, by unfold atI; rw [e4.length, ej]; exact hx1, ?_⟩
              have q := SEnd.out (own' := own) (σ := σ) (H := H2) ⟨_, _, b2, y2⟩ pn we (show SEnd X.K X.mg W own ol B En (bindS (fe ρ) ρ _) from q)
              refine ⟨ρ, y2.env, q.mono fun e _ q u H3 s3 r3 => ?_⟩
              cases e with
              | int z =>
                cases r3
                have y3 := y2.grow s3 (A := []) (fun _ z => nomatch z)
                refine ⟨x, z, rfl, rfl, l, vs, n, j, rfl, rfl, ((s1.trans s2).trans s3).mv e3, by rw [e4.length]; exact ej, ?_⟩
                refine e5 _ H3 _ _ _ En y3 ((s1.trans s2).trans s3) (b2.trans (ext_s [])) (fun A r k n m => ?_) q pn
                obtain ⟨A', r', k'⟩ := Fus.set (vs := vs) (ds := ds) (A := A) (Fu.int (K := X.K) (H := H3) (x + z)) r (fun a ha => nomatch ha) j
                exact ⟨A', r', fun a ha => (k' a ha).imp id fun z => nomatch z⟩
              | _ => exact q.elim
            | _ => exact q.elim
      | _ => exact q.elim
    | _ => exact q.elim⟩
theorem Fus.dropLast {K : PySem.W.Frag} {H : Hp} : ∀ {vs : List V} {ds : List D} {A : List Addr}, Fus K H vs ds A → ∃ A', Fus K H vs.dropLast ds.dropLast A' ∧ ∀ a ∈ A', a ∈ A := by
  intro vs
  induction vs with
  | nil =>
    intro ds A f
    cases f
    exact ⟨[], .nil, fun _ h => h⟩
  | cons v vs ih =>
    intro ds A f
    cases f with
    | @cons _ _ d ds A B h r m =>
      cases r with
      | nil => exact ⟨[], .nil, fun _ h => nomatch h⟩
      | @cons w ws e es A2 B2 h2 r2 m2 =>
        obtain ⟨A', r', k⟩ := ih (.cons h2 r2 m2)
        refine ⟨A ++ A', .cons h r' fun x hx hy => m x hx (k x hy), fun a ha => ?_⟩
        rcases List.mem_append.mp ha with z | z
        · exact List.mem_append_left _ z
        · exact List.mem_append_right _ (k a z)
/-- a, b, .. = place.pop() -/
theorem vs_popT (is : List Nat) {n : Nat} (p : PS X st (tAsg (tBM0 X.K "list" rPop (tL X.K X.mg W own i fp)) (gTup X.K n (gNames is)))) (hn : n = is.length) (hi : i ∈ own := by decide) (we : ∀ i ∈ ol.e, i ∈ own := by first | decide | (dsimp only; decide)) (hpn : ∀ i ∈ is, ol.P i = none := by first | exact (fun _ _ => rfl) | (intro i hi; simp only [List.mem_cons, List.not_mem_nil, or_false] at hi; (repeat' (rcases hi with rfl | hi)) <;> first | rfl | (subst hi; rfl))) : VS X W own (is.reverse ++ own) ol st (popS i fp is) := ⟨psW p fun En σ H ⟨B, ρ, x, pn, q⟩ => by
  unfold popS at q
  have q := SEnd.out x pn we q
  obtain ⟨S, F, b, y⟩ := x
  refine ⟨ρ, S, F, y, hi, q.mono fun pt _ q => ?_⟩
  cases ha : atP i pt ρ with
  | none => rw [ha] at q; exact q.elim
  | some d0 =>
    rw [ha] at q
    cases d0 with
    | lst ds =>
      obtain ⟨g0, v, l, vs, e1, e2, e3, e4, e5⟩ := put_core y hi ha
      refine ⟨g0, fun v' w H1 hv s1 nv => ?_⟩
      rw [e1] at hv
      cases hv
      have ew := navH_fun (navH_mono s1 e2) nv
      subst ew
      have q : SEnd X.K X.mg W (is.reverse ++ own) ol B En (match ds[ds.length - 1]? with
        | some d => if immD d = true then bindS (unpR is.length d) ρ fun es => (putP i pt (.lst ds.dropLast) ρ).seq fun ρ' => .nx (putAll is es ρ') else .st
        | none => .st) := q
      cases ed : ds[ds.length - 1]? with
      | none => rw [ed] at q; exact q.elim
      | some d =>
        rw [ed] at q
        have q : SEnd X.K X.mg W (is.reverse ++ own) ol B En (if immD d = true then bindS (unpR is.length d) ρ fun es => (putP i pt (.lst ds.dropLast) ρ).seq fun ρ' => .nx (putAll is es ρ') else .st) := q
        by_cases hm : immD d = true
        rotate_left
        · rw [if_neg hm] at q; exact q.elim
        rw [if_pos hm] at q
        obtain ⟨u, hu, ru⟩ := e4.get ed
        have y1 := y.grow s1 (A := []) (fun _ z => nomatch z)
        obtain ⟨d', F', h1, y2⟩ := e5 _ H1 _ vs.dropLast ds.dropLast y1 s1 (fun A r k n m => by
          obtain ⟨A', r', k'⟩ := r.dropLast
          exact ⟨A', r', fun a ha => .inl (k' a ha)⟩)
        refine ⟨.inl ⟨rfl, _, .inl (.inl (s1.mv e3))⟩, l, vs, u, rfl, rfl, s1.mv e3, by rw [e4.length]; exact hu, ?_⟩
        cases d with
        | tup es =>
          have q : SEnd X.K X.mg W (is.reverse ++ own) ol B En (bindS (if es.length = is.length then .ok es else .st) ρ fun es => (putP i pt (.lst ds.dropLast) ρ).seq fun ρ' => .nx (putAll is es ρ')) := q
          by_cases hl : es.length = is.length
          · rw [if_pos hl, bindS_ok, h1] at q
            have fu := (ru.fu hm).same s1
            cases fu with
            | tup h r =>
              have hlo : ∃ o, H1 l = some o ∧ ¬ Stt o := ⟨_, s1.mv e3, fun z => (show False from z)⟩
              refine ⟨_, _, rfl, (upd_seqT hlo h).sq, by rw [r.length, hl, hn], names_put y2 (r.at (fun a ha => nomatch ha) fun b o st _ hs => upd_stt hlo st hs) (fun a ha => nomatch ha) hl fun σ' F' st' k' => q _ _ ⟨_, _, b.trans (ext_s []), st'⟩ (pn.keep fun j hj => k' j fun m => hj (hpn j m))⟩
          · rw [if_neg hl] at q; exact q.elim
        | _ => exact q.elim
    | _ => exact q.elim⟩
end
theorem vss_st {X : Cx} {W : WX} {own own' : List Nat} {ol : Ol} {st : List Stmt} : VSs X W own own' ol st (fun _ => .st) := ⟨⟨fun pins s σ H D I x => by obtain ⟨_, _, _, _, q⟩ := x; exact q.elim⟩⟩
theorem Cal.at {P : Program} {w : World} {K : PySem.W.Frag} {mg : Str → Option Value} {base : Heap} {x : Str} {ps : List Str} {k k' : Nat} {m : List D → R D} (C : Cal P w K mg base x ps k m) (h : k = k') : Cal P w K mg base x ps k' m := h ▸ C
end Vs

namespace Vs
open PySem PySem.Spec PyProof.Rows L2

/-! ### methods of texts -/
def strsO : List D → Option (List Str)
  | [] => some []
  | .str i :: r => (strsO r).map (i :: ·)
  | _ => none
theorem strsO_map : ∀ ys : List Str, strsO (ys.map D.str) = some ys
  | [] => rfl
  | y :: ys => by rw [List.map_cons, strsO, strsO_map ys]; rfl
theorem strsO_eq : ∀ {xs : List D} {ys : List Str}, strsO xs = some ys → xs = ys.map D.str
  | [], ys, h => by cases h; rfl
  | .str i :: xs, ys, h => by
    rw [strsO] at h
    cases e : strsO xs with
    | none => rw [e] at h; cases h
    | some ms =>
      rw [e] at h
      cases h
      rw [List.map_cons, strsO_eq e]
  | .int _ :: _, _, h => by cases h
  | .non :: _, _, h => by cases h
  | .bl _ :: _, _, h => by cases h
  | .lst _ :: _, _, h => by cases h
  | .tup _ :: _, _, h => by cases h
  | .dic _ _ _ :: _, _, h => by cases h
  | .fn _ :: _, _, h => by cases h
  | .exc _ _ :: _, _, h => by cases h
  | .cl _ _ :: _, _, h => by cases h
  | .obj _ _ _ :: _, _, h => by cases h
theorem rds_strs {K : PySem.W.Frag} {H : Hp} : ∀ {ys : List Str} {vs : List V}, Rds K H vs (ys.map D.str) → vs = ys.map V.str
  | [], vs, r => by cases r; rfl
  | y :: ys, vs, r => by
    cases r with
    | cons h r => cases h; rw [rds_strs r]; rfl
def m1E (g : Str → D → R D) (f h : Env → R D) (ρ : Env) : R D := (f ρ).bind fun d => match d with
  | .str a => (h ρ).bind (g a)
  | _ => .st
def m0E (g : Str → R D) (f : Env → R D) (ρ : Env) : R D := (f ρ).bind fun d => match d with
  | .str a => g a
  | _ => .st
def joinG (a : Str) : D → R D
  | .lst xs => match strsO xs with
    | some ys => if (ys.map (·.length)).sum + ys.length * a.length ≤ 16777216 then .ok (.str (Txt.join a ys)) else .st
    | none => .st
  | .tup xs => match strsO xs with
    | some ys => if (ys.map (·.length)).sum + ys.length * a.length ≤ 16777216 then .ok (.str (Txt.join a ys)) else .st
    | none => .st
  | _ => .st
def splitG (a : Str) : D → R D
  | .str b => if (b.length == 0) = false ∧ a.length + 2 ≤ sizeLine then .ok (.lst ((Txt.split a b).map D.str)) else .st
  | _ => .st
def startsG (a : Str) : D → R D
  | .str b => .ok (.bl (Txt.startswith a b))
  | _ => .st
def findG (a : Str) : D → R D
  | .str b => .ok (.int (Txt.find a b))
  | _ => .st
def countG (a : Str) : D → R D
  | .str b => .ok (.int (Txt.count a b))
  | _ => .st
/-- a method's rule over data -/
def MtD (X : Cx) (r : V → List V → Hp → VK → Prop) (g : Str → D → R D) : Prop := ∀ (a : Str) (v : V) (d : D) (H : Hp) (Q : VK) (z : D), Rd X.K H v d → g a d = .ok z → (∀ v H' A, Same H H' → Fu X.K H' v z A → (∀ a ∈ A, H a = none) → Q v H') → r (.str a) [v] H Q
section
variable {X : Cx} {W : WX} {o e : Expr} {f h : Env → R D} {g : Str → D → R D} {r : V → List V → Hp → VK → Prop} {id : String} {name : Str} {apos pos : Pos}
theorem vg_m1 (slot : Slot "str" name id) (ty : typeOf (.builtin id) = pure (.type "method_descriptor")) (rule : MtR X id r) (k : MtD X r g) (n : ∀ a d c, g a d ≠ .ex c) (ho : VE X W o f) (he : VE X W e h)
    (hs : starEach [e] X.env = [(false, eval e X.env)] := by rfl) (hbase : attributeBase o name X.env (eval o X.env) = eval o X.env := by rfl) (hline : (apos.endLine == pos.line) = true := by rfl) :
    VG X W (.Call (.Attribute o name apos) [e] [] pos) (m1E g f h) := ⟨peW (pe_m1 slot ty rule ho.pe he.pe hs hbase hline) fun σ H Q ⟨ρ, re, q⟩ => ⟨ρ, re, (Out.bind q).mono fun d _ q v H1 s1 r1 => by
  cases d with
  | str a =>
    cases r1
    refine ⟨⟨a, rfl⟩, ρ, re.mono s1, ((Out.bind (show Out X.mg W σ H ((h ρ).bind (g a)) _ from q)).up s1).mono fun e _ q w H2 s2 r2 => ?_⟩
    cases hz : g a e with
    | ok z =>
      rw [hz] at q
      exact k a w e H2 Q z r2 hz fun u H3 A s3 f3 n3 => q u H3 A ((s1.trans s2).trans s3) f3 fun a ha => (s1.trans s2).free (n3 a ha)
    | ex c => exact absurd hz (n a e c)
    | st => rw [hz] at q; exact q.elim
  | _ => exact q.elim⟩⟩
theorem ld_strs {K : PySem.W.Frag} {H : Hp} {ys : List Str} : ∀ {p : Addr}, H p = none → Fu K (upd H p (.lst (ys.map V.str))) (.ref p) (.lst (ys.map D.str)) [p] := fun hp =>
  fu_new_lst hp (by
    induction ys with
    | nil => exact .nil
    | cons y ys ih => exact .cons (.str y) ih) (by
    induction ys with
    | nil => rfl
    | cons y ys ih => rw [List.map_cons, immDs, immD, ih]; rfl)
theorem md_join : MtD X (fun x xs H Q => ∃ a p, ∃ ys : List Str, x = .str a ∧ xs = [.ref p] ∧ (SqL X.K H p (ys.map V.str) ∨ SqT X.K H p (ys.map V.str)) ∧ (ys.map (·.length)).sum + ys.length * a.length ≤ 16777216 ∧ Q (.str (Txt.join a ys)) H) joinG := fun a v d H Q z rd hz q => by
  unfold joinG at hz
  split at hz
  · rename_i xs
    split at hz
    · rename_i ys hs
      split at hz
      · rename_i c
        cases hz
        cases rd with
        | lst h1 r1 =>
          have e := strsO_eq hs
          subst e
          have ev := rds_strs r1
          subst ev
          exact ⟨_, _, ys, rfl, rfl, .inl h1, c, q _ H [] (Same.refl H) (.str _) (fun _ h => nomatch h)⟩
      · cases hz
    · cases hz
  · rename_i xs
    split at hz
    · rename_i ys hs
      split at hz
      · rename_i c
        cases hz
        cases rd with
        | tup h1 r1 =>
          have e := strsO_eq hs
          subst e
          have ev := rds_strs r1
          subst ev
          exact ⟨_, _, ys, rfl, rfl, .inr h1.sq, c, q _ H [] (Same.refl H) (.str _) (fun _ h => nomatch h)⟩
      · cases hz
    · cases hz
  · cases hz
theorem mn_join : ∀ a d c, joinG a d ≠ .ex c := fun a d c h => by
  unfold joinG at h
  repeat' split at h
  all_goals cases h
theorem md_split : MtD X (fun x xs H Q => ∃ a b, x = .str a ∧ xs = [.str b] ∧ (b.length == 0) = false ∧ a.length + 2 ≤ sizeLine ∧ rNewStrs (Txt.split a b) H Q) splitG := fun a v d H Q z rd hz q => by
  unfold splitG at hz
  split at hz
  · split at hz
    · rename_i c
      cases hz
      cases rd
      exact ⟨_, _, rfl, rfl, c.1, c.2, fun p hp => q _ _ [p] (new_same hp) (ld_strs hp) fun a ha => by rw [List.mem_singleton.mp ha]; exact hp⟩
    · cases hz
  · cases hz
theorem mn_split : ∀ a d c, splitG a d ≠ .ex c := fun a d c h => by
  unfold splitG at h
  repeat' split at h
  all_goals cases h
end
end Vs

namespace Vs
open PySem PySem.Spec PyProof.Rows L2

/-! ### tuples of ints in order -/
def ltT : D → D → R D
  | .tup xs, .tup ys => match intsO xs, intsO ys with
    | some ns, some ms => .ok (.bl (HT.lexLt ns ms))
    | _, _ => .st
  | _, _ => .st
theorem nx_ltT : NoEx2 ltT := fun d e c h => by
  unfold ltT at h
  repeat' split at h
  all_goals cases h
section
variable {X : Cx}
theorem d_ltT : OpD X (rLtT X.K) ltT := fun x y d e H Q z rx ry h q => by
  unfold ltT at h
  split at h
  · split at h
    · rename_i ns ms e1 e2
      cases h
      cases rx with
      | tup h1 r1 =>
        cases ry with
        | tup h2 r2 =>
          have v1 := intsO_rd e1 r1
          have v2 := intsO_rd e2 r2
          subst v1 v2
          exact ⟨_, _, ns, ms, rfl, rfl, h1.sq, h2.sq, q _ H [] (Same.refl H) (.bl _) (fun _ h => nomatch h)⟩
    · cases h
  · cases h
end
end Vs

namespace Vs
open PySem PySem.Spec PyProof.Rows L2

/-! ### a sign so many times -/
def repSign (c n : Nat) : Str := ⟨(List.replicate n c).toArray⟩
theorem fold_sign (c : Nat) : ∀ (n : Nat) (acc : List Nat), (List.replicate n #[c]).foldl (· ++ ·) acc.toArray = (acc ++ List.replicate n c).toArray
  | 0, acc => by simp
  | n + 1, acc => by
    rw [List.replicate_succ, List.foldl_cons, List.replicate_succ]
    have h := fold_sign c n (acc ++ [c])
    rw [show (acc.toArray ++ #[c]) = (acc ++ [c]).toArray by simp]
    rw [h, List.append_assoc]
    rfl
section
variable {X : Cx}
def rMulS : R2 := fun x y H Q => ∃ c i, x = .str ⟨#[c]⟩ ∧ y = .int i ∧ 0 ≤ i ∧ i ≤ 16000000 ∧ Q (.str (repSign c i.toNat)) H
theorem op_mulS : OpR X (binaryOp .Mult) rMulS := by
  intro pins s σ H x y v u Q I rx ry h
  obtain ⟨c, i, rfl, rfl, h0, h1, q⟩ := h
  obtain ⟨t, rfl⟩ := rx
  obtain ⟨t', rfl⟩ := ry
  have hi : (decide (i < -(2 ^ 63 : Int)) || decide (i ≥ 2 ^ 63)) = false := by
    have e63 : (2 : Int) ^ 63 = 9223372036854775808 := by decide
    rw [e63, decide_eq_false (by omega), decide_eq_false (by omega)]
    rfl
  have hl : (⟨#[c]⟩ : Str).length = 1 := rfl
  refine P.mul_str hi (fun a b => ?_) (fun a b => ?_) ?_
  · rw [hl]
    have e63 : (2 : Int) ^ 63 = 9223372036854775808 := by decide
    rw [e63]
    have : 1 ≤ (9223372036854775808 - 1) / i := by
      refine (Int.le_ediv_iff_mul_le (by omega)).mpr ?_
      omega
    omega
  · rw [hl, Nat.one_mul]
    unfold Builtin.Str.tooLong
    first
      | exact decide_eq_false (by have : sizeLine = 16777216 := by decide
                                  omega)
      | simp
  · by_cases a : i < 1
    · rw [if_pos a]
      have e : i.toNat = 0 := by omega
      rw [e] at q
      exact ⟨by decide, ⟨.str _, H, I.tok _, ⟨_, rfl⟩, q⟩⟩
    · rw [if_neg a]
      by_cases b : (i == 1 || (⟨#[c]⟩ : Str).length == 0) = true
      · rw [if_pos b]
        have e : i = 1 := by
          rw [hl] at b
          simpa using b
        subst e
        exact ⟨.str _, H, I, ⟨_, rfl⟩, q⟩
      · rw [if_neg b]
        have e := fold_sign c i.toNat []
        rw [List.nil_append] at e
        have e : (List.replicate i.toNat #[c]).foldl (· ++ ·) #[] = (List.replicate i.toNat c).toArray := e
        show Made.post _ _ _
        simp only [e]
        refine ⟨?_, ⟨.str _, H, I.tok _, ⟨_, rfl⟩, q⟩⟩
        show (List.replicate i.toNat c).toArray.size ≤ sizeLine
        rw [List.size_toArray, List.length_replicate, sizeLine_eq]
        omega
def mulSD : D → D → R D
  | .str x, .int i => match x.cps.toList with
    | [c] => if 0 ≤ i ∧ i ≤ 16000000 then .ok (.str (repSign c i.toNat)) else .st
    | _ => .st
  | _, _ => .st
theorem nx_mulS : NoEx2 mulSD := fun d e c h => by
  unfold mulSD at h
  repeat' split at h
  all_goals cases h
theorem d_mulS : OpD X rMulS mulSD := fun x y d e H Q z rx ry h q => by
  unfold mulSD at h
  split at h
  · rename_i x0 i0
    split at h
    · rename_i c hc
      split at h
      · rename_i b
        cases h
        cases rx
        cases ry
        obtain ⟨⟨l⟩⟩ := x0
        simp only at hc
        subst hc
        exact ⟨c, _, rfl, rfl, b.1, b.2, q _ H [] (Same.refl H) (.str _) (fun _ h => nomatch h)⟩
      · cases h
    · cases h
  · cases h
end
end Vs

namespace Vs
open PySem PySem.Spec PyProof.Rows L2

/-! ### dicts -/
def keyO : D → Option Key
  | .int i => some (.inl i)
  | .str x => some (.inr x)
  | _ => none
def keysO : List D → Option (List Key)
  | [] => some []
  | d :: ds => match keyO d, keysO ds with
    | some k, some ks => some (k :: ks)
    | _, _ => none
/-- a key: a tuple or not -/
def keyA : D → Option (Bool × List Key)
  | .tup xs => (keysO xs).map fun l => (true, l)
  | d => (keyO d).map fun k => (false, [k])
theorem keyO_D (k : Key) : keyO (keyD k) = some k := by cases k <;> rfl
theorem keysO_D : ∀ l : List Key, keysO (l.map keyD) = some l
  | [] => rfl
  | k :: l => by rw [List.map_cons, keysO, keyO_D, keysO_D l]
theorem keyA_k (k : Key) : keyA (keyD k) = some (false, [k]) := by cases k <;> rfl
theorem keyA_t (l : List Key) : keyA (.tup (l.map keyD)) = some (true, l) := by
  show (keysO (l.map keyD)).map _ = _
  rw [keysO_D]
  rfl
theorem keyO_eq {d : D} {k : Key} (h : keyO d = some k) : d = keyD k := by
  unfold keyO at h
  split at h <;> first | (cases h; rfl) | cases h
theorem keysO_eq : ∀ {ds : List D} {l : List Key}, keysO ds = some l → ds = l.map keyD
  | [], l, h => by cases h; rfl
  | d :: ds, l, h => by
    rw [keysO] at h
    cases e1 : keyO d with
    | none => rw [e1] at h; cases h
    | some k =>
      cases e2 : keysO ds with
      | none => rw [e1, e2] at h; cases h
      | some ks =>
        rw [e1, e2] at h
        cases h
        rw [List.map_cons, ← keyO_eq e1, ← keysO_eq e2]
theorem keyA_f {d : D} {l : List Key} (h : keyA d = some (false, l)) : ∃ k, d = keyD k ∧ l = [k] := by
  unfold keyA at h
  split at h
  · cases e : keysO _ with
    | none => rw [e] at h; cases h
    | some z => rw [e] at h; cases h
  · cases e : keyO d with
    | none => rw [e] at h; cases h
    | some k => rw [e] at h; cases h; exact ⟨k, keyO_eq e, rfl⟩
theorem keyA_tt {d : D} {l : List Key} (h : keyA d = some (true, l)) : d = .tup (l.map keyD) := by
  unfold keyA at h
  split at h
  · rename_i xs
    cases e : keysO xs with
    | none => rw [e] at h; cases h
    | some z => rw [e] at h; cases h; rw [keysO_eq e]
  · cases e : keyO d with
    | none => rw [e] at h; cases h
    | some k => rw [e] at h; cases h
/-- what stands under a key -/
def findD (q : Bool × List Key) : List D → List D → Option D
  | k :: ks, v :: vs => if keyA k = some q then some v else findD q ks vs
  | _, _ => none
/-- the values behind d[q] = d, where q is there -/
def replD (q : Bool × List Key) (d : D) : List D → List D → List D
  | k :: ks, v :: vs => (if keyA k = some q then d else v) :: replD q d ks vs
  | _, vs => vs
def hasD (q : Bool × List Key) (ks : List D) : Bool := ks.any fun k => decide (keyA k = some q)
def dgetQ (t : Bool) (ks vs : List D) : Option (Bool × List Key) → R (Option D)
  | some q => if q.1 = t ∧ (t = true → q.2.length = 2) then .ok (findD q ks vs) else .st
  | none => .st
def dgetR (d k : D) : R (Option D) := match d with
  | .dic t ks vs => dgetQ t ks vs (keyA k)
  | _ => .st
theorem dgetR_nx {d k : D} {c : Str} : dgetR d k ≠ .ex c := fun h => by
  unfold dgetR at h
  cases d with
  | dic t ks vs =>
    cases e : keyA k with
    | none => simp only [e] at h; cases h
    | some q =>
      simp only [e, dgetQ] at h
      split at h <;> cases h
  | _ => cases h
section
variable {K : PySem.W.Frag} {H : Hp}
theorem rd_key {v : V} (k : Key) (r : Rd K H v (keyD k)) : v = kV k := by
  cases k with
  | inl i => cases r; rfl
  | inr x => cases r; rfl
theorem noref {l : List Key} : ¬ ∃ b, V.ref b ∈ l.map kV := fun ⟨b, h⟩ => by
  obtain ⟨k, _, e⟩ := List.mem_map.mp h
  cases k <;> cases e
theorem rds_keys : ∀ {l : List Key} {vs : List V}, Rds K H vs (l.map keyD) → vs = l.map kV
  | [], vs, r => by cases r; rfl
  | k :: l, vs, r => by
    cases r with
    | cons h r => rw [rd_key k h, rds_keys r]; rfl
theorem find_k {k : Key} : ∀ {kvs : List (Key × V)} {ds : List D}, Rds K H (kvs.map (·.2)) ds → match findD (false, [k]) (kvs.map fun p => keyD p.1) ds with
    | some d => ∃ v, valV kvs k = some v ∧ Rd K H v d
    | none => valV kvs k = none
  | [], ds, r => by cases r; rfl
  | p :: r, ds, h => by
    cases h with
    | @cons v vs d ds h1 h2 =>
      rw [List.map_cons, findD, keyA_k]
      by_cases e : p.1 = k
      · rw [if_pos (by rw [e]), valV_pos e]
        exact ⟨_, rfl, h1⟩
      · rw [if_neg (fun z => e (by injection z with z; injection z with _ z; injection z)), valV_neg e]
        exact find_k h2
theorem find_t {k : List Key} : ∀ {kvs : List (List Key × V)} {ds : List D}, Rds K H (kvs.map (·.2)) ds → match findD (true, k) (kvs.map fun p => D.tup (p.1.map keyD)) ds with
    | some d => ∃ v, valV kvs k = some v ∧ Rd K H v d
    | none => valV kvs k = none
  | [], ds, r => by cases r; rfl
  | p :: r, ds, h => by
    cases h with
    | @cons v vs d ds h1 h2 =>
      rw [List.map_cons, findD, keyA_t]
      by_cases e : p.1 = k
      · rw [if_pos (by rw [e]), valV_pos e]
        exact ⟨_, rfl, h1⟩
      · rw [if_neg (fun z => e (by injection z with z; injection z with _ z)), valV_neg e]
        exact find_t h2
/-- d[k] by data -/
theorem dget_of {x y : V} {d k : D} {o : Option D} (rx : Rd K H x d) (ry : Rd K H y k) (h : dgetR d k = .ok o) : ∃ a ov, x = .ref a ∧ DGet H a y ov ∧ (∀ e, o = some e → ∃ v, ov = some v ∧ Rd K H v e) ∧ (o = none → ov = none) := by
  have fin : ∀ {f : Option D} {ov : Option V}, (match f with | some d => ∃ v, ov = some v ∧ Rd K H v d | none => ov = none) → f = o → (∀ e, o = some e → ∃ v, ov = some v ∧ Rd K H v e) ∧ (o = none → ov = none) := fun {f ov} hm e => by
    subst e
    cases f with
    | none => exact ⟨(fun e z => nomatch z), fun _ => hm⟩
    | some d => exact ⟨(fun e z => by cases z; exact hm), (fun z => nomatch z)⟩
  cases d with
  | dic t ks vs =>
    have h : dgetQ t ks vs (keyA k) = .ok o := h
    cases hq : keyA k with
    | none => rw [hq] at h; cases h
    | some q =>
      rw [hq] at h
      obtain ⟨qt, ql⟩ := q
      have h5 : (if qt = t ∧ (t = true → ql.length = 2) then R.ok (findD (qt, ql) ks vs) else .st) = .ok o := h
      by_cases ht : qt = t ∧ (t = true → ql.length = 2)
      · rw [if_pos ht] at h5
        obtain ⟨ht, h2l⟩ := ht
        subst ht
        have h6 : findD (qt, ql) ks vs = o := R.ok.inj h5
        clear h h5
        cases rx with
        | @dk a kvs _ _ h1 h2 h3 =>
          subst h2
          obtain ⟨key, e1, e2⟩ := keyA_f hq
          subst e1 e2
          have ey := rd_key key ry
          subst ey
          exact ⟨a, valV kvs key, rfl, DGet.k h1, fin (find_k (k := key) h3) h6⟩
        | @dt a kvs _ _ h1 h2 h3 =>
          subst h2
          have e1 := keyA_tt hq
          subst e1
          cases ry with
          | @tup b ws _ hb rb =>
            have ew := rds_keys rb
            subst ew
            rcases hb with hb | ⟨_, _, _, _, _, _, _, _, ne⟩
            · exact ⟨a, valV kvs ql, rfl, DGet.t h1 hb, fin (find_t (k := ql) h3) h6⟩
            · exact ne.elim (fun ne => absurd (by simpa using h2l rfl) ne) fun z => (noref z).elim
      · rw [if_neg ht] at h5; cases h5
  | _ => cases h
end
def dgetD (d k : D) : R D := (dgetR d k).bind fun o => match o with
  | some e => .ok e
  | none => .st
def dinD (k d : D) : R D := (dgetR d k).bind fun o => .ok (.bl o.isSome)
def dninD (k d : D) : R D := (dgetR d k).bind fun o => .ok (.bl (!o.isSome))
section
variable {X : Cx} {W : WX} {a b : Expr} {f g : Env → R D} {pos : Pos}
theorem vg_dnewK : VG X W (.Dict [] [] pos) (cE (.dic false [] [])) := ⟨peW pe_dnewK fun σ H Q ⟨ρ, re, o⟩ p hp => o (.ref p) _ [p] (new_same hp) (.dk upd_same rfl .nil (fun z => nomatch z)) fun a m => by rw [List.mem_singleton.mp m]; exact hp⟩
theorem vg_dnewT : VG X W (.Dict [] [] pos) (cE (.dic true [] [])) := ⟨peW pe_dnewT fun σ H Q ⟨ρ, re, o⟩ p hp => o (.ref p) _ [p] (new_same hp) (.dt upd_same rfl .nil (fun z => nomatch z)) fun a m => by rw [List.mem_singleton.mp m]; exact hp⟩
theorem ve_dget (hu : X.A.units + 1 < cLine) (ha : VE X W a f) (hb : VE X W b g) (hs : NoSl b) : VE X W (.Subscript a b pos) (op2 dgetD f g) :=
  ⟨peW (pe_dget hu ha.pe hb.pe hs) fun σ H Q ⟨ρ, re, o⟩ => ⟨ρ, re, (Out.bind o).mono fun d _ q v H1 s1 r1 => ⟨ρ, re.mono s1, ((Out.bind q).up s1).mono fun k _ q w H2 s2 r2 => by
    unfold dgetD at q
    cases hg : dgetR d k with
    | st => rw [hg] at q; exact q.elim
    | ex c => exact absurd hg dgetR_nx
    | ok o =>
      rw [hg] at q
      obtain ⟨p, ov, rfl, h1, h2, _⟩ := dget_of (r1.mono s2) r2 hg
      cases o with
      | none => exact q.elim
      | some e =>
        obtain ⟨u, rfl, h3⟩ := h2 e rfl
        exact ⟨p, u, rfl, h1, q u H2 (s1.trans s2) h3⟩⟩⟩⟩
theorem tDin_of {neg : Bool} {σ : L2.St} {H : Hp} {Q : VK} {h : D → D → R D} (hh : ∀ k d, h k d = (dgetR d k).bind fun o => .ok (.bl (if neg then !o.isSome else o.isSome))) (q : tG X.K X.mg W (op2 h f g) σ H Q) :
    tF X.K X.mg W f σ H fun y H1 => tF X.K X.mg W g σ H1 fun x H2 => ∃ a o, x = .ref a ∧ DGet H2 a y o ∧ Q (.bl (if neg then !o.isSome else o.isSome)) H2 := by
  obtain ⟨ρ, re, o⟩ := q
  refine ⟨ρ, re, (Out.bind o).mono fun k _ q v H1 s1 r1 => ⟨ρ, re.mono s1, ((Out.bind q).up s1).mono fun d _ q w H2 s2 r2 => ?_⟩⟩
  rw [hh] at q
  cases hg : dgetR d k with
  | st => rw [hg] at q; exact q.elim
  | ex c => exact absurd hg dgetR_nx
  | ok o =>
    rw [hg] at q
    obtain ⟨p, ov, rfl, h1, h2, h3⟩ := dget_of r2 (r1.mono s2) hg
    refine ⟨p, ov, rfl, h1, ?_⟩
    have e : ov.isSome = o.isSome := by
      cases o with
      | none => rw [h3 rfl]; rfl
      | some e =>
        obtain ⟨u, rfl, _⟩ := h2 e rfl
        rfl
    rw [e]
    exact q _ H2 [] (s1.trans s2) (.bl _) (fun _ h => nomatch h)
theorem vt_din (hu : X.A.units + 1 < cLine) (ha : VE X W a f) (hb : VE X W b g) (hm : behindInMarks .In b = false) : VT X W (.Compare a [.In] [b] pos) (boolR (op2 dinD f g)) :=
  ⟨ptW (pt_cmp (pc_din hu ha.pe hb.pe) hm) fun σ H Q ⟨ρ, re, o⟩ => tDin_of (neg := false) (h := dinD) (Q := fun v H' => ∃ k, v = .bl k ∧ Q k H') (fun _ _ => rfl) ⟨ρ, re, (boolR_out o).mono fun d _ ⟨k, e, q⟩ v H1 A s1 f1 n1 => by subst e; cases f1; exact ⟨k, rfl, q H1 s1⟩⟩⟩
theorem vt_dnin (hu : X.A.units + 1 < cLine) (ha : VE X W a f) (hb : VE X W b g) (hm : behindInMarks .NotIn b = false) : VT X W (.Compare a [.NotIn] [b] pos) (boolR (op2 dninD f g)) :=
  ⟨ptW (pt_cmp (pc_dnotin hu ha.pe hb.pe) hm) fun σ H Q ⟨ρ, re, o⟩ => tDin_of (neg := true) (h := dninD) (Q := fun v H' => ∃ k, v = .bl k ∧ Q k H') (fun _ _ => rfl) ⟨ρ, re, (boolR_out o).mono fun d _ ⟨k, e, q⟩ v H1 A s1 f1 n1 => by subst e; cases f1; exact ⟨k, rfl, q H1 s1⟩⟩⟩
end

/-! ### d[k] = e -/
def dputD (t : Bool) (ks vs : List D) (q : Bool × List Key) (k d : D) : D := if hasD q ks = true then .dic t ks (replD q d ks vs) else .dic t (ks ++ [k]) (vs ++ [d])
def dputQ (i : Nat) (p : List Nat) (t : Bool) (ks vs : List D) (k d : D) (ρ : Env) : Option (Bool × List Key) → Sr
  | some q => if q.1 = t ∧ immD d = true ∧ vs.length < sizeLine ∧ (t = true → q.2.length = 2) then putP i p (dputD t ks vs q k d) ρ else .st
  | none => .st
def dputS (i : Nat) (fp : Env → R (List Nat)) (fk fe : Env → R D) (ρ : Env) : Sr := bindS (fe ρ) ρ fun d => bindS (fp ρ) ρ fun p => match atP i p ρ with
  | some (.dic t ks vs) => bindS (fk ρ) ρ fun k => dputQ i p t ks vs k d ρ (keyA k)
  | _ => .st
section
variable {κ : Type} [DecidableEq κ] {enc : κ → D} {k : κ} {q : Bool × List Key}
theorem hasD_any (hq : ∀ k', keyA (enc k') = some q ↔ k' = k) : ∀ kvs : List (κ × V), hasD q (kvs.map fun p => enc p.1) = kvs.any fun kv => decide (kv.1 = k)
  | [] => rfl
  | p :: r => by
    have ih := hasD_any hq r
    unfold hasD at ih ⊢
    rw [List.map_cons, List.any_cons, List.any_cons, ih]
    congr 1
    by_cases e : p.1 = k
    · rw [decide_eq_true e, decide_eq_true ((hq _).mpr e)]
    · rw [decide_eq_false e, decide_eq_false (fun z => e ((hq _).mp z))]
theorem fus_repl {K : PySem.W.Frag} {H : Hp} {v : V} {d : D} (hq : ∀ k', keyA (enc k') = some q ↔ k' = k) (f : Fu K H v d []) : ∀ {kvs : List (κ × V)} {ds : List D} {A : List Addr}, Fus K H (kvs.map (·.2)) ds A →
    ∃ A', Fus K H ((kvs.map fun kv => if kv.1 = k then (kv.1, v) else kv).map (·.2)) (replD q d (kvs.map fun p => enc p.1) ds) A' ∧ ∀ a ∈ A', a ∈ A
  | [], ds, A, r => by cases r; exact ⟨[], .nil, fun _ h => h⟩
  | p :: r, ds, A, h => by
    rw [List.map_cons] at h
    cases h with
    | @cons _ _ e es A1 A2 h1 h2 m =>
      obtain ⟨A', g, sub⟩ := fus_repl hq f h2
      rw [List.map_cons, List.map_cons, List.map_cons, replD]
      by_cases e1 : p.1 = k
      · rw [if_pos e1, if_pos ((hq _).mpr e1)]
        exact ⟨[] ++ A', .cons f g (fun _ z => nomatch z), fun a ha => List.mem_append_right _ (sub a ha)⟩
      · rw [if_neg e1, if_neg (fun z => e1 ((hq _).mp z))]
        refine ⟨A1 ++ A', .cons h1 g fun x hx hy => m x hx (sub x hy), fun a ha => ?_⟩
        rcases List.mem_append.mp ha with z | z
        · exact List.mem_append_left _ z
        · exact List.mem_append_right _ (sub a z)
theorem fus_put {K : PySem.W.Frag} {H : Hp} {v : V} {d : D} (hq : ∀ k', keyA (enc k') = some q ↔ k' = k) (f : Fu K H v d []) {kvs : List (κ × V)} {ds : List D} {A : List Addr} (h : Fus K H (kvs.map (·.2)) ds A) (t : Bool) :
    ∃ ks' ds' A', dputD t (kvs.map fun p => enc p.1) ds q (enc k) d = .dic t ks' ds' ∧ ks' = (putK kvs k v).map (fun p => enc p.1) ∧ Fus K H ((putK kvs k v).map (·.2)) ds' A' ∧ ∀ a ∈ A', a ∈ A := by
  unfold dputD putK
  rw [hasD_any hq]
  by_cases e : (kvs.any fun kv => decide (kv.1 = k)) = true
  · rw [if_pos e, if_pos e]
    obtain ⟨A', g, sub⟩ := fus_repl (q := q) (d := d) hq f h
    refine ⟨_, _, A', rfl, ?_, g, sub⟩
    rw [List.map_map]
    refine List.map_congr_left fun p _ => ?_
    show enc p.1 = enc (if p.1 = k then (p.1, v) else p).1
    split <;> rfl
  · rw [if_neg e, if_neg e]
    refine ⟨_, _, A ++ ([] ++ []), rfl, by rw [List.map_append]; rfl, ?_, fun a ha => by simpa using ha⟩
    rw [List.map_append]
    exact h.app (.cons f .nil fun _ z => nomatch z) fun _ _ z => nomatch z
end
theorem hqk (k : Key) : ∀ k', keyA (keyD k') = some (false, [k]) ↔ k' = k := fun k' => by
  rw [keyA_k]
  constructor
  · intro h
    injection h with h
    injection h with _ h
    injection h
  · intro h
    rw [h]
theorem hqt (l : List Key) : ∀ l', keyA (.tup (l'.map keyD)) = some (true, l) ↔ l' = l := fun l' => by
  rw [keyA_t]
  constructor
  · intro h
    injection h with h
    injection h
  · intro h
    rw [h]
section
variable {X : Cx} {W : WX} {own own' : List Nat} {ol : Ol} {i : Nat} {f fk fe : Env → R D} {fp : Env → R (List Nat)} {st : Stmt}
theorem vs_dput (p : PS X st (sDPut (tL X.K X.mg W own i fp) (tF X.K X.mg W fk) (tG X.K X.mg W fe))) (hi : i ∈ own := by decide) (we : ∀ i ∈ ol.e, i ∈ own := by first | decide | (dsimp only; decide)) : VS X W own own ol st (dputS i fp fk fe) := ⟨psW p fun En σ H ⟨B, ρ, x, pn, q⟩ => by
  unfold dputS at q
  have q := SEnd.out x pn we q
  obtain ⟨S, F, b, y⟩ := x
  refine ⟨ρ, y.env, q.mono fun d _ q u H1 C s1 f1 n1 => ?_⟩
  have y1 := y.grow s1 (A := []) (fun _ z => nomatch z)
  have b1 := b.trans (ext_s (S := S) (H := H1) [])
  have q := SEnd.out (own' := own) (σ := σ) (H := H1) ⟨_, _, b1, y1⟩ pn we q
  refine ⟨ρ, _, _, y1, hi, q.mono fun pt _ q => ?_⟩
  cases ha : atP i pt ρ with
  | none => rw [ha] at q; exact q.elim
  | some d0 =>
    rw [ha] at q
    cases d0 with
    | dic t ks vs =>
      obtain ⟨dd, hd, hg⟩ := atP_some ha
      refine ⟨⟨dd, _, hd, hg⟩, fun v w H2 hv s2 nv => ?_⟩
      have y2 := y1.grow s2 (A := []) (fun _ z => nomatch z)
      have b2 := b1.trans (ext_s (S := _) (H := H2) [])
      have q := SEnd.out (own' := own) (σ := σ) (H := H2) ⟨_, _, b2, y2⟩ pn we (show SEnd X.K X.mg W own ol B En (bindS (fk ρ) ρ _) from q)
      refine ⟨ρ, y2.env, q.mono fun k _ q kv H3 s3 rk => ?_⟩
      have y3 := y2.grow s3 (A := []) (fun _ z => nomatch z)
      have b3 := b2.trans (ext_s (S := _) (H := H3) [])
      cases hk : keyA k with
      | none => rw [hk] at q; exact q.elim
      | some kq =>
        rw [hk] at q
        have q : SEnd X.K X.mg W own ol B En (if kq.1 = t ∧ immD d = true ∧ vs.length < sizeLine ∧ (t = true → kq.2.length = 2) then putP i pt (dputD t ks vs kq k d) ρ else .st) := q
        by_cases c : kq.1 = t ∧ immD d = true ∧ vs.length < sizeLine ∧ (t = true → kq.2.length = 2)
        rotate_left
        · rw [if_neg c] at q; exact q.elim
        rw [if_pos c] at q
        obtain ⟨c1, c2, c3, c4⟩ := c
        have fd : Fu X.K H3 u d [] := ((f1.rd.mono s2).mono s3).fu c2
        obtain ⟨v', w', A, g1, g2, g3, g4, g5⟩ := y3.place hi hd hg
        rw [hv] at g1
        cases g1
        have ew := navH_fun (navH_mono s3 nv) g2
        subst ew
        obtain ⟨kt, kl⟩ := kq
        have fin : ∀ (a : Addr) (o' : HO) (e' : D) (A1 : List Addr), a ∈ A → ¬ Stt o' → dputD t ks vs (kt, kl) k d = e' → Fu X.K (upd H3 a o') w e' A1 → (∀ x ∈ A1, x ∈ A) → En.nx σ (upd H3 a o') := fun a o' e' A1 ha ns he fu sub => by
          obtain ⟨d', F', s4, y4⟩ := g5 a o' e' A1 ha ns fu fun x hx => .inl (sub x hx)
          rw [he] at q
          unfold putP at q
          rw [hd] at q
          simp only [s4] at q
          exact q _ _ ⟨_, _, b3, y4⟩ pn
        cases g3 with
        | @dk a kvs _ _ A1 h1 h2 h3 h4 =>
          subst h2
          have c1 : kt = false := c1
          subst c1
          obtain ⟨key, e1, e2⟩ := keyA_f hk
          subst e1 e2
          have ey := rd_key key rk
          subst ey
          obtain ⟨ks', ds', A', e3, e4, e5, e6⟩ := fus_put (enc := keyD) (k := key) (q := (false, [key])) (hqk key) fd h3 false
          have hao : ∃ o, H3 a = some o ∧ ¬ Stt o := ⟨_, h1, fun z => (show False from z)⟩
          have hlen : kvs.length < sizeLine := by
            have := h3.length
            rw [List.length_map] at this
            omega
          refine ⟨a, _, rfl, DPut.k h1 hlen, fin a (.dK (putK kvs key u)) _ (a :: A') List.mem_cons_self (fun z => (show False from z)) e3 (.dk upd_same e4 (e5.at (fun x hx => upd_ne fun z => h4 (e6 _ (z ▸ hx))) fun b o st _ hs => upd_stt hao st hs) fun z => h4 (e6 _ z)) fun x hx => ?_⟩
          rcases List.mem_cons.mp hx with z | z
          · rw [z]; exact List.mem_cons_self
          · exact List.mem_cons_of_mem _ (e6 x z)
        | @dt a kvs _ _ A1 h1 h2 h3 h4 =>
          subst h2
          have c1 : kt = true := c1
          subst c1
          have e1 := keyA_tt hk
          subst e1
          cases rk with
          | @tup bb ws _ hb rb =>
            have ews := rds_keys rb
            subst ews
            rcases hb with hb | ⟨_, _, _, _, _, _, _, _, ne⟩
            rotate_left
            · exact ne.elim (fun ne => absurd (by simpa using c4 rfl) ne) fun z => (noref z).elim
            obtain ⟨ks', ds', A', e3, e4, e5, e6⟩ := fus_put (enc := fun l => D.tup (l.map keyD)) (k := kl) (q := (true, kl)) (hqt kl) fd h3 true
            have hao : ∃ o, H3 a = some o ∧ ¬ Stt o := ⟨_, h1, fun z => (show False from z)⟩
            have hlen : kvs.length < sizeLine := by
              have := h3.length
              rw [List.length_map] at this
              omega
            refine ⟨a, _, rfl, DPut.t h1 hb hlen, fin a (.dT (putK kvs kl u)) _ (a :: A') List.mem_cons_self (fun z => (show False from z)) e3 (.dt upd_same e4 (e5.at (fun x hx => upd_ne fun z => h4 (e6 _ (z ▸ hx))) fun b o st _ hs => upd_stt hao st hs) fun z => h4 (e6 _ z)) fun x hx => ?_⟩
            rcases List.mem_cons.mp hx with z | z
            · rw [z]; exact List.mem_cons_self
            · exact List.mem_cons_of_mem _ (e6 x z)
    | _ => exact q.elim⟩
end
end Vs

namespace Vs
open PySem PySem.Spec PyProof.Rows L2

/-! ### sorted -/
def sortI (ns : List Int) : List Int := ns.mergeSort fun a b => decide (a ≤ b)
theorem sortI_perm (ns : List Int) : (sortI ns).Perm ns := List.mergeSort_perm _ _
theorem sortI_pw (ns : List Int) : (sortI ns).Pairwise (· ≤ ·) := by
  have h := List.pairwise_mergeSort (le := fun a b : Int => decide (a ≤ b)) (fun a b c h1 h2 => by simp at *; omega) (fun a b => by simp; omega) ns
  exact h.imp fun {a b} h => by simpa using h
theorem srt_uniq : ∀ {xs ys : List Int}, xs.Perm ys → xs.Pairwise (· ≤ ·) → ys.Pairwise (· ≤ ·) → xs = ys
  | [], ys, p, _, _ => p.nil_eq
  | x :: xs, ys, p, h1, h2 => by
    cases ys with
    | nil => exact absurd p.symm.nil_eq (by simp)
    | cons y ys =>
      rw [List.pairwise_cons] at h1 h2
      have a1 : x ∈ y :: ys := p.mem_iff.mp List.mem_cons_self
      have a2 : y ∈ x :: xs := p.mem_iff.mpr List.mem_cons_self
      have e : x = y := by
        rcases List.mem_cons.mp a1 with z | z
        · exact z
        · rcases List.mem_cons.mp a2 with z' | z'
          · exact z'.symm
          · exact Int.le_antisymm (h1.1 y z') (h2.1 x z)
      subst e
      rw [srt_uniq (List.Perm.cons_inv p) h1.2 h2.2]
def sortedD : List D → R D
  | [.lst xs] => match intsO xs with
    | some ns => .ok (.lst ((sortI ns).map D.int))
    | none => .st
  | [.dic false ks _] => match intsO ks with
    | some ns => if ns.length ≤ 1000000 then .ok (.lst ((sortI ns).map D.int)) else .st
    | none => .st
  | _ => .st
theorem nx_sorted : NoEx1 sortedD := fun ds c h => by
  unfold sortedD at h
  repeat' split at h
  all_goals cases h
section
variable {X : Cx}
def rSortDA : List V → Hp → VK → Prop := fun xs H Q => ∃ (a : Addr) (kvs : List (Key × V)) (ks : List Int), xs = [.ref a] ∧ L2.Rd H a (.dK kvs) ∧ kvs.map (·.1) = ks.map Sum.inl ∧ ks.length ≤ 1000000 ∧
    ∀ (ys : List Int) (p : Addr), ys.Perm ks → ys.Pairwise (· ≤ ·) → H p = none → Q (.ref p) (upd H p (.lst (ys.map V.int)))
theorem call_sortedDA (hcalm : X.calm = true) : CallR X (.builtin "sorted") rSortDA := by
  intro pins s σ H xs us Q I r q
  obtain ⟨a, kvs, ks, ex, hd, hks, h64, q⟩ := q
  subst ex
  obtain ⟨u, eu, rx⟩ := vals1 r
  subst eu
  cases rx
  obtain ⟨z, lo, vs, rel, dd⟩ := dk_rd I.hok hd
  obtain ⟨ep, hat⟩ := dd.dictAt
  have hkeys : vs.map (·.1) = ks.map Sum.inl := rel.keys.symm.trans hks
  have hl : vs.length = ks.length := by
    have e := congrArg List.length hkeys
    rw [List.length_map, List.length_map] at e
    exact e
  have h16 : vs.length ≤ sizeLine := by rw [hl, sizeLine_eq]; omega
  refine Calls.call_function_entry PyProof.Rows.kind_sorted PyProof.Rows.plain_sorted PyProof.Rows.entry_sorted (PyProof.Rows.args_sorted1 _) ?_
  unfold Builtin.«sorted»
  refine wpAny_bind (m := checkCount "sorted" 1 1 _) (wpAny_pure ?_)
  refine wpAny_bind (PySem.W.kdu_collect (A := X.A.in1) (PySem.W.kdl_dict (knd := mixKind X.prog X.w) (kvs := vs) (ep := ep) lo) (I.ok.hd hcalm) hat h16 fun h' tk acc hk hacc => ?_)
  have hal : acc.toList.length = ks.length := by rw [Array.length_toList, hacc.1, hl]
  have hS : IntsAre acc.toList ks := ints_each hal fun j v e => by
    obtain ⟨k, x, e1, e2⟩ := hacc.2 j v (by rw [← Array.getElem?_toList]; exact e)
    have e3 : (vs.map (·.1))[j]? = some k := by rw [List.getElem?_map, e1]; rfl
    rw [hkeys, List.getElem?_map] at e3
    cases e4 : ks[j]? with
    | none => rw [e4] at e3; cases e3
    | some y =>
      rw [e4] at e3
      have e5 : Sum.inl y = k := Option.some.inj e3
      subst e5
      rcases keyIs_shape (show keyIs (Sum.inl y) v = true from e2) with ⟨i, t, ek, ev⟩ | ⟨z, t, ek, ev⟩
      · cases ek
        exact ⟨y, t, rfl, ev⟩
      · cases ek
  have I1 : Inv X pins σ H { s with heap := h', toks := tk } := I.kept hk
  refine wpAny_bind (wpAny_newList ?_ (by rw [hal, sizeLine_eq]; omega))
  have hoL : (h'.push (seqObj "list" acc.toList.toArray 0)).get? h'.objs.size = some (seqObj "list" acc.toList.toArray 0) := Heap.get?_push_size _ rfl
  show wpAny _ _ _ _ _ { s with heap := h'.push (seqObj "list" acc.toList.toArray 0), toks := tk }
  refine wpAny_bind (wpAny_holding (wpAny_call_entry PyProof.Rows.slot_list_sort ⟨_, hoL, rfl⟩ PyProof.Rows.entry_list_sort
    (SrtO.list_sort_ord (s := { s with heap := h'.push (seqObj "list" acc.toList.toArray 0), toks := tk }) SrtO.swo_int hoL (by rw [hal, sizeLine_eq]; omega) (fun h2 => SrtO.ints_sortable hS h2) fun out g1 g2 => ⟨_, rfl, ?_⟩) (PyProof.Rows.args_list_sort _)))
  obtain ⟨k1, k2, k3⟩ := SrtO.ints_out hS g1 g2
  obtain ⟨e', he'⟩ := PyProof.Rows.sortedHeap_at (vs := acc.toList) (out := out.toArray) hoL
  have hlen : ((out.map SrtO.iv).map V.int).length ≤ sizeLine := by
    rw [List.length_map, k2.length_eq, sizeLine_eq]
    omega
  refine wpAny_pure ⟨_, rfl, .ref h'.objs.size, upd H h'.objs.size (.lst ((out.map SrtO.iv).map V.int)), I1.laid (t' := tk) (fun b u e => ?_) (Nat.le_refl _)
    (show ObjOk X.prog X.w _ _ _ (.lst ((out.map SrtO.iv).map V.int)) from ⟨hlen, out, e', vals_of_ints k1, he'⟩), rfl, q _ _ k2 k3 (I1.hok.fresh (Nat.le_refl _))⟩
  have hb : b < h'.objs.size := Heap.lt_size e
  rw [PyProof.Rows.sortedHeap_old (Nat.ne_of_lt hb) (by rw [size_push']; exact Nat.lt_succ_of_lt hb)]
  exact Heap.get?_push_of_some _ e
def rSortA (K : PySem.W.Frag) : List V → Hp → VK → Prop := fun xs H Q => rSortedI K xs H Q ∨ rSortDA xs H Q
theorem call_sortedA (hc : X.calm = true) : CallR X (.builtin "sorted") (rSortA X.K) := cr_sortedI.or (call_sortedDA hc)
theorem fu_ints {K : PySem.W.Frag} {H : Hp} {p : Addr} (hp : H p = none) (ns : List Int) : Fu K (upd H p (.lst (ns.map V.int))) (.ref p) (.lst (ns.map D.int)) [p] :=
  fu_new_lst hp (by
    induction ns with
    | nil => exact .nil
    | cons n ns ih => exact .cons (.int n) ih) (by
    induction ns with
    | nil => rfl
    | cons n ns ih => rw [List.map_cons, immDs, immD, ih]; rfl)
theorem intsO_keys : ∀ {ks : List Key} {ns : List Int}, intsO (ks.map keyD) = some ns → ks = ns.map Sum.inl
  | [], ns, h => by cases h; rfl
  | .inl i :: ks, ns, h => by
    rw [List.map_cons, keyD, intsO] at h
    cases e : intsO (ks.map keyD) with
    | none => rw [e] at h; cases h
    | some ms =>
      rw [e] at h
      cases h
      rw [List.map_cons, intsO_keys e]
  | .inr x :: ks, ns, h => by cases h
theorem cb_sorted : CbD X (rSortA X.K) sortedD := fun vs ds H Q z r h q => by
  unfold sortedD at h
  split at h
  · obtain ⟨v, rfl, h1⟩ := rds1 r
    split at h
    · rename_i ns e
      cases h
      cases h1 with
      | lst h1 r1 =>
        have ev := intsO_rd e r1
        subst ev
        refine .inl ⟨_, ns, rfl, h1, fun ys p p1 p2 hp => ?_⟩
        have e2 := srt_uniq (p1.trans (sortI_perm ns).symm) p2 (sortI_pw ns)
        rw [e2]
        exact q _ _ [p] (new_same hp) (fu_ints hp _) fun a m => by rw [List.mem_singleton.mp m]; exact hp
    · cases h
  · obtain ⟨v, rfl, h1⟩ := rds1 r
    split at h
    · rename_i ns e
      split at h
      · rename_i c
        cases h
        cases h1 with
        | dk h1 h2 r1 =>
          subst h2
          rw [show (fun (p : Key × V) => keyD p.1) = keyD ∘ (fun p => p.1) from rfl, ← List.map_map] at e
          have ek := intsO_keys e
          refine .inr ⟨_, _, ns, rfl, .inl h1, ek, c, fun ys p p1 p2 hp => ?_⟩
          have e2 := srt_uniq (p1.trans (sortI_perm ns).symm) p2 (sortI_pw ns)
          rw [e2]
          exact q _ _ [p] (new_same hp) (fu_ints hp _) fun a m => by rw [List.mem_singleton.mp m]; exact hp
      · cases h
    · cases h
  · cases h
end
end Vs

namespace Vs
open PySem PySem.Spec PyProof.Rows L2

/-! ### slices with a step -/
def pickN {α : Type} (ix : List Nat) (xs : List α) : List α := ix.filterMap (xs[·]?)
def stIx (n : Nat) (lo hi : Option Int) (k : Int) : List Nat := sliceRange (sliceBounds lo hi (some k) n).1 (sliceBounds lo hi (some k) n).2.1 (sliceBounds lo hi (some k) n).2.2
theorem pickN_cons {α : Type} (i : Nat) (ix : List Nat) (xs : List α) : pickN (i :: ix) xs = match xs[i]? with
  | some x => x :: pickN ix xs
  | none => pickN ix xs := by
  unfold pickN
  rw [List.filterMap_cons]
  cases xs[i]? <;> rfl
theorem vals_none {xs : List V} {us : List Value} {i : Nat} (r : Vals xs us) (h : xs[i]? = none) : us[i]? = none := by
  rw [List.getElem?_eq_none_iff] at h ⊢
  rw [← r.length]
  exact h
theorem vals_pick {xs : List V} {us : List Value} (r : Vals xs us) : ∀ ix : List Nat, Vals (pickN ix xs) (pickN ix us)
  | [] => .nil
  | i :: ix => by
    rw [pickN_cons, pickN_cons]
    cases h : xs[i]? with
    | none => rw [vals_none r h]; exact vals_pick r ix
    | some x =>
      obtain ⟨u, h2, r2⟩ := r.get h
      rw [h2]
      exact .cons r2 (vals_pick r ix)
theorem rds_pick {K : PySem.W.Frag} {H : Hp} {xs : List V} {ds : List D} (r : Rds K H xs ds) : ∀ ix : List Nat, Rds K H (pickN ix xs) (pickN ix ds)
  | [] => .nil
  | i :: ix => by
    rw [pickN_cons, pickN_cons]
    cases h : xs[i]? with
    | none =>
      have h2 : ds[i]? = none := by
        rw [List.getElem?_eq_none_iff] at h ⊢
        rw [← r.length]
        exact h
      rw [h2]
      exact rds_pick r ix
    | some x =>
      obtain ⟨u, h2, r2⟩ := r.getV h
      rw [h2]
      exact .cons r2 (rds_pick r ix)
def rSlK (K : PySem.W.Frag) : V → Option Int → Option Int → Option Int → Hp → VK → Prop := fun x lo hi o H Q => ∃ a xs k, x = .ref a ∧ o = some k ∧ SqL K H a xs ∧ k ≠ 0 ∧ ∀ p, H p = none → Q (.ref p) (upd H p (.lst (pickN (stIx xs.length lo hi k) xs)))
def tSlK (K : PySem.W.Frag) (te : TE) (tl th ts : TO) : TE := fun σ H Q => te σ H fun x H1 => tl σ H1 fun l H2 => th σ H2 fun u H3 => ts σ H3 fun o H4 => rSlK K x l u o H4 Q
theorem pe_sliceK {X : Cx} {e st : Expr} {lo hi : Option Expr} {te : TE} {tl th ts : TO} {p2 pos : Pos} (he : PE X e te) (hl : PO X lo tl) (hu : PO X hi th) (hs : PO X (some st) ts) : PE X (.Subscript e (.Slice lo hi (some st) p2) pos) (tSlK X.K te tl th ts) := by
  refine ⟨fun pins s σ H Q I h => ?_⟩
  refine Subscript_ (thn (he.run pins s σ H _ I h) fun v s1 ⟨x, H1, I1, r1, q1⟩ => ?_)
  refine wpAny_Slice (thn (hl.run pins s1 σ H1 _ I1 q1) fun vl s2 ⟨l, H2, I2, pl, q2⟩ => thn (hu.run pins s2 σ H2 _ I2 q2) fun vu s3 ⟨u, H3, I3, pu, q3⟩ => thn (hs.run pins s3 σ H3 _ I3 q3) fun vs s4 ⟨o, H4, I4, ps, q4⟩ => ?_)
  have I5 : Inv X pins σ H4 { s4 with heap := s4.heap.push { cls := .type "slice", data := .fields #[vl, vu, vs] } } := I4.kept (t' := s4.toks) fun b ob q => Heap.get?_push_of_some _ q
  obtain ⟨a, xs, k, ex, eo, hx, hk, q⟩ := q4
  subst ex
  subst eo
  cases r1
  obtain ⟨its, r, ht, hz⟩ := I5.list hx
  have hlen := r.length
  show wpAny (model X.prog X.w) X.A (subscriptTail e (.Slice lo hi (some st) p2) (.ref a) (.ref s4.heap.objs.size)) (EP X pins σ Q) X.xe { s4 with heap := s4.heap.push { cls := .type "slice", data := .fields #[vl, vu, vs] } }
  refine tail_any (ops := [.ref a, .ref s4.heap.objs.size]) ht.isList.typeIs (PySem.slot_list_getitem.lookup) ?_ (by with_unfolding_all rfl)
  refine wpAny_getItem_list_slice ht.isList (Heap.IsSliceOf.new _ vl vu vs) pl pu ps (fun e => hk (by injection e)) ?_ (by rw [List.size_toArray]; omega)
  have e1 : slicePick its.toArray l u (some k) = (pickN (stIx xs.length l u k) its).toArray := by
    unfold slicePick pickN stIx
    rw [List.size_toArray, ← hlen]
    simp
  have e2 := slicePick_size_le its.toArray l u (some k)
  rw [e1] at e2 ⊢
  rw [List.size_toArray, List.size_toArray, ← (vals_pick r _).length] at e2
  refine ⟨.ref _, _, I5.laid (t' := s4.toks) (o := .lst (pickN (stIx xs.length l u k) xs)) (fun b ob q => Heap.get?_push_of_some _ q) (Nat.le_refl _) ?_, rfl, q _ (I5.hok.fresh (Nat.le_refl _))⟩
  exact ⟨by omega, _, 0, vals_pick r _, Heap.get?_push_size _ rfl⟩
def slkD (d : D) (lo hi o : Option Int) : R D := match d, o with
  | .lst xs, some k => if k = 0 then .st else .ok (.lst (pickN (stIx xs.length lo hi k) xs))
  | _, _ => .st
theorem slk_cases (d : D) (lo hi o : Option Int) : slkD d lo hi o = .st ∨ ∃ xs k, d = .lst xs ∧ o = some k ∧ k ≠ 0 ∧ slkD d lo hi o = .ok (.lst (pickN (stIx xs.length lo hi k) xs)) := by
  unfold slkD
  split
  · split
    · exact .inl rfl
    · rename_i h
      exact .inr ⟨_, _, rfl, rfl, h, rfl⟩
  · exact .inl rfl
def slkE (f : Env → R D) (lo hi st : Env → R (Option Int)) (ρ : Env) : R D := (f ρ).bind fun d => (lo ρ).bind fun l => (hi ρ).bind fun u => (st ρ).bind fun o => slkD d l u o
def slkG (f : Env → R D) (lo hi st : Env → R (Option Int)) (ρ : Env) : R D := (f ρ).bind fun d => (lo ρ).bind fun l => (hi ρ).bind fun u => (st ρ).bind fun o => (slkD d l u o).bind immL
section
variable {X : Cx} {W : WX} {a st : Expr} {f : Env → R D} {lo hi : Option Expr} {l u o : Env → R (Option Int)} {p2 pos : Pos}
theorem ve_slk (ha : VE X W a f) (hl : VO X W lo l) (hu : VO X W hi u) (hs : VO X W (some st) o) : VE X W (.Subscript a (.Slice lo hi (some st) p2) pos) (slkE f l u o) :=
  ⟨peW (pe_sliceK ha.pe hl.po hu.po hs.po) fun σ H Q ⟨ρ, re, z⟩ => ⟨ρ, re, (Out.bind z).mono fun d _ q v H1 s1 r1 => ⟨ρ, re.mono s1, ((Out.bind q).up s1).mono fun l _ q H2 s2 => ⟨ρ, re.mono (s1.trans s2), ((Out.bind q).up (s1.trans s2)).mono fun u _ q H3 s3 => ⟨ρ, re.mono (s1.trans (s2.trans s3)), ((Out.bind q).up (s1.trans (s2.trans s3))).mono fun o _ q H4 s4 => by
    rcases slk_cases d l u o with z | ⟨xs, k, rfl, rfl, hk, z⟩
    · rw [z] at q
      exact q.elim
    · rw [z] at q
      · cases r1 with
        | lst h1 r1 =>
          have r2 := r1.mono (s2.trans (s3.trans s4))
          refine ⟨_, _, k, rfl, rfl, (s2.trans (s3.trans s4)).seq h1, hk, fun p hp => ?_⟩
          refine q _ _ ((s1.trans (s2.trans (s3.trans s4))).trans (new_same hp)) (.lst (SqL.of upd_same) ?_)
          rw [← r1.length]
          exact rds_pick (r2.mono (new_same hp)) _
⟩⟩⟩⟩⟩
theorem vg_slk (ha : VE X W a f) (hl : VO X W lo l) (hu : VO X W hi u) (hs : VO X W (some st) o) : VG X W (.Subscript a (.Slice lo hi (some st) p2) pos) (slkG f l u o) :=
  ⟨peW (pe_sliceK ha.pe hl.po hu.po hs.po) fun σ H Q ⟨ρ, re, z⟩ => ⟨ρ, re, (Out.bind z).mono fun d _ q v H1 s1 r1 => ⟨ρ, re.mono s1, ((Out.bind q).up s1).mono fun l _ q H2 s2 => ⟨ρ, re.mono (s1.trans s2), ((Out.bind q).up (s1.trans s2)).mono fun u _ q H3 s3 => ⟨ρ, re.mono (s1.trans (s2.trans s3)), ((Out.bind q).up (s1.trans (s2.trans s3))).mono fun o _ q H4 s4 => by
    rcases slk_cases d l u o with z | ⟨xs, k, rfl, rfl, hk, z⟩
    · rw [z] at q
      exact q.elim
    · rw [z] at q
      · cases r1 with
        | lst h1 r1 =>
          have r2 := r1.mono (s2.trans (s3.trans s4))
          refine ⟨_, _, k, rfl, rfl, (s2.trans (s3.trans s4)).seq h1, hk, fun p hp => ?_⟩
          rw [← r1.length] at q
          have r4 := rds_pick r2 (stIx xs.length l u k)
          rw [← r1.length] at r4
          generalize pickN _ xs = ys at q r4
          have q : Out X.mg W σ H (if immDs ys = true then R.ok (D.lst ys) else R.st) _ := q
          by_cases m : immDs ys = true
          · rw [if_pos m] at q
            exact q _ _ [p] ((s1.trans (s2.trans (s3.trans s4))).trans (new_same hp)) (fu_new_lst hp r4 m) fun a ha => by
              rw [List.mem_singleton.mp ha]; exact (s1.trans (s2.trans (s3.trans s4))).free hp
          · rw [if_neg m] at q
            exact q.elim
⟩⟩⟩⟩⟩
end

/-! ### the module's names as values -/
def ConK (K : PySem.W.Frag) (x : Str) (v : V) : Prop := ∃ u, PySem.W.nsIn K mainGlobals x = some (some u) ∧ RelV v u
theorem conI_mk {K : PySem.W.Frag} {x : Str} {i : Int} {t : Tok} (a : PySem.W.nsIn K mainGlobals x = some (some (.int i t))) : ConK K x (.int i) := ⟨_, a, t, rfl⟩
theorem conS_mk {K : PySem.W.Frag} {x : Str} {i : Str} {t : Tok} (a : PySem.W.nsIn K mainGlobals x = some (some (.str i t))) : ConK K x (.str i) := ⟨_, a, t, rfl⟩
def ConM (mg : Str → Option Value) (x : Str) (v : V) : Prop := ∃ u, mg x = some u ∧ RelV v u
theorem con_of {K : PySem.W.Frag} {h : Heap} {mg : Str → Option Value} {x : Str} {v : V} (X : K.In h) (G : h.Ns mainGlobals mg) (d : ConK K x v) : ConM mg x v := by
  obtain ⟨u, a, r⟩ := d
  exact ⟨u, PySem.W.mg_of X G a, r⟩
def FnM (K : PySem.W.Frag) (mg : Str → Option Value) (x : Str) : Prop := ∃ f, mg x = some (.ref f) ∧ NameK K x f
theorem fnM_of {K : PySem.W.Frag} {h : Heap} {mg : Str → Option Value} {x : Str} {st : Stmt} (X : K.In h) (G : h.Ns mainGlobals mg) (d : DefK K x st) : FnM K mg x := by
  obtain ⟨f, oc, od, kV, doc, pm, an, cd, ct, sl, a, l, c, k⟩ := d
  exact ⟨f, PySem.W.mg_of X G a, a⟩
section
variable {X : Cx} {W : WX} {x : Str} {pos : Pos}
theorem vg_conI {i : Int} (c : ConM X.mg x (.int i)) (hg : Gl X x) (hd : (x == ("__debug__" : Str)) = false := by decide) : VG X W (.Name x pos) (cE (.int i)) := by
  obtain ⟨u, h, r⟩ := c
  exact ⟨peW (pe_glob hg h r hd) fun σ H Q ⟨ρ, re, o⟩ => o (.int i) H [] (Same.refl H) (.int i) (fun _ z => nomatch z)⟩
theorem vg_conS {z : Str} (c : ConM X.mg x (.str z)) (hg : Gl X x) (hd : (x == ("__debug__" : Str)) = false := by decide) : VG X W (.Name x pos) (cE (.str z)) := by
  obtain ⟨u, h, r⟩ := c
  exact ⟨peW (pe_glob hg h r hd) fun σ H Q ⟨ρ, re, o⟩ => o (.str z) H [] (Same.refl H) (.str z) (fun _ z => nomatch z)⟩
theorem vg_fnv (c : FnM X.K X.mg x) (hg : Gl X x) (hd : (x == ("__debug__" : Str)) = false := by decide) : VG X W (.Name x pos) (cE (.fn x)) := by
  obtain ⟨f, h, r⟩ := c
  exact ⟨peW (pe_glob (v := .ref f) hg h rfl hd) fun σ H Q ⟨ρ, re, o⟩ => o (.ref f) H [] (Same.refl H) (.fn r) (fun _ z => nomatch z)⟩
end

/-! ### a call of what a slot holds -/
def callT (i : Nat) (T : List (Str × (List D → R D))) (fs : Env → R (List D)) (ρ : Env) : R D := match ρ[i]? with
  | some (some (.fn x)) => match T.lookup x with
    | some m => (fs ρ).bind m
    | none => .st
  | _ => .st
def CalT (P : Program) (w : World) (K : PySem.W.Frag) (mg : Str → Option Value) (base : Heap) (n k : Nat) : List (Str × (List D → R D)) → Prop
  | [] => True
  | (x, m) :: T => (∃ ps k', ps.length = n ∧ k' ≤ k ∧ Cal P w K mg base x ps k' m) ∧ CalT P w K mg base n k T
theorem calT_get {P : Program} {w : World} {K : PySem.W.Frag} {mg : Str → Option Value} {base : Heap} {n k : Nat} : ∀ {T : List (Str × (List D → R D))} {x : Str} {m : List D → R D}, CalT P w K mg base n k T → T.lookup x = some m → ∃ ps k', ps.length = n ∧ k' ≤ k ∧ Cal P w K mg base x ps k' m
  | [], _, _, _, h => nomatch h
  | (y, m') :: T, x, m, ⟨c, cs⟩, h => by
    rw [List.lookup_cons] at h
    split at h
    · rename_i e
      cases h
      rw [eq_of_beq e]
      exact c
    · exact calT_get cs h
section
variable {X : Cx} {W : WX} {x : Str} {p pos : Pos} {e : Expr} {es : List Expr} {i n k' : Nat} {T : List (Str × (List D → R D))} {fs : Env → R (List D)}
def tCallV (X : Cx) (k' i : Nat) (W : WX) (t : TA) : TE := fun σ H Q => ∃ f y, σ[i]? = some (some (.ref f)) ∧ NameK X.K y f ∧ ∃ ps k m, k ≤ k' ∧ Cal X.prog X.w X.K X.mg X.base y ps k m ∧ t σ H fun vs H1 => spF X.K X.mg ps.length m vs H1 Q fun cls d H2 => W cls d σ H2
theorem pe_callV {t : TA} (hr : Room k' X.A) (tk : Takes X W) (hN : X.N[i]? = some x) (hv : Vis X.env.scope x) (ha : PA X (e :: es) t)
    (hdb : (x == ("__debug__" : Str)) = false := by decide) (hcd : (x == ("__classdict__" : Str)) = false := by decide)
    (he : starEach (e :: es) X.env = (false, eval e X.env) :: starEach es X.env := by rfl) (hpl : (backTo pos (starEach es X.env)).any (·.1) = false := by rfl) : PE X (.Call (.Name x p) (e :: es) [] pos) (tCallV X k' i W t) := by
  refine ⟨fun pins s σ H Q I h => ?_⟩
  obtain ⟨f, y, hs, hn, ps, k, m, hk, ⟨f2, fd, h1, h2, h3, h4⟩, ht⟩ := h
  have e2 := h1.symm.trans (PySem.W.mg_of I.ok.mod.kin I.ok.mod.glob hn)
  cases e2
  refine wpAny_Call_Name_kw (thn ((pe_var (pos := p) hN hv hdb hcd).run pins s σ H (fun v H1 => v = .ref f ∧ H1 = H) I ⟨.ref f, hs, rfl, rfl⟩) fun u s1 ⟨v, H1, I1, r1, q1⟩ => ?_)
  obtain ⟨rfl, rfl⟩ := q1
  cases r1
  refine PySem.W.callWith_K (h₀ := X.base) I.ok.mod.kin h2 (thn (ha.run pos pins s1 σ _ _ I1 ht) fun us s2 ⟨vs, H2, I2, r, q⟩ => ⟨I2.kIn, ?_⟩) he hpl
  exact run_fnS (E := fun σ cls d H2 => W cls d σ H2) h4 (hr.mono hk) h3 (passAt tk σ) I2 r q
theorem vg_callT (C : CalT X.prog X.w X.K X.mg X.base n k' T) (hr : Room k' X.A) (tk : Takes X W) (hN : X.N[i]? = some x) (hv : Vis X.env.scope x)
    (ha : VA X W (e :: es) fs) (hl : LenA fs n) (hdb : (x == ("__debug__" : Str)) = false := by decide) (hcd : (x == ("__classdict__" : Str)) = false := by decide) (he : starEach (e :: es) X.env = (false, eval e X.env) :: starEach es X.env := by rfl) (hpl : (backTo pos (starEach es X.env)).any (·.1) = false := by rfl) :
    VG X W (.Call (.Name x p) (e :: es) [] pos) (callT i T fs) := ⟨peW (pe_callV hr tk hN hv ha.pa hdb hcd he hpl) fun σ H Q ⟨ρ, re, o⟩ => by
  unfold callT at o
  split at o
  · rename_i y hy
    split at o
    · rename_i m hm
      obtain ⟨ps, k, hp, hk, c⟩ := calT_get C hm
      obtain ⟨v, h1, h2⟩ := re.val i _ hy
      cases h2 with
      | @fn f _ hn =>
      refine ⟨f, y, h1, hn, ps, k, m, hk, c, ρ, re, (Out.bind o).mono fun ds hd q vs H1 s1 r1 => ?_⟩
      refine ⟨r1.length.trans ((hl ρ ds hd).trans hp.symm), re.tabs.up s1, ds, r1, ?_⟩
      cases hz : m ds with
      | ok d => rw [hz] at q; exact fun v H' A s2 f2 n2 => q v H' A (s1.trans s2) f2 fun a z => s1.free (n2 a z)
      | ex c => rw [hz] at q; obtain ⟨C, h1, h2⟩ := q; exact ⟨C, h1, fun H' s2 => h2 H' (s1.trans s2)⟩
      | st => rw [hz] at q; exact q.elim
    · exact o.elim
  · exact o.elim⟩
end
end Vs

namespace Vs
open PySem PySem.Spec PyProof.Rows L2

/-! ### defs with defaults -/
def DefKD (K : PySem.W.Frag) (x : Str) (st : Stmt) (dvs : List V) : Prop := ∃ (f : Addr) (oc : Value) (od : Option Addr) (T : Addr) (kV doc pm : Value) (an : Option Addr) (cd ct : Value) (sl : Array (Option Value)) (o : Obj) (its : List Value) (n : Nat),
  PySem.W.nsIn K mainGlobals x = some (some (.ref f)) ∧ K.lookup f = some ⟨oc, od, .func (PySem.W.fnOf x x (defArgs st) (defBody st) (defScope st) (.ref T) kV doc pm an cd ct), sl⟩ ∧ PySem.W.codeIn K cd x = true ∧ PySem.W.keepIn K (.ref f) = true ∧
  K.lookup T = some o ∧ o.data = .seq its.toArray n ∧ Vals dvs its
theorem defKD_mk {K : PySem.W.Frag} {x : Str} {st : Stmt} {dvs : List V} {f : Addr} {oc : Value} {od : Option Addr} {T : Addr} {kV doc pm : Value} {an : Option Addr} {cd ct : Value} {sl : Array (Option Value)} {o : Obj} {its : List Value} {n : Nat}
    (a : PySem.W.nsIn K mainGlobals x = some (some (.ref f))) (l : K.lookup f = some ⟨oc, od, .func (PySem.W.fnOf x x (defArgs st) (defBody st) (defScope st) (.ref T) kV doc pm an cd ct), sl⟩) (c : PySem.W.codeIn K cd x = true) (k : PySem.W.keepIn K (.ref f) = true)
    (t : K.lookup T = some o) (d : o.data = .seq its.toArray n) (v : Vals dvs its) : DefKD K x st dvs :=
  ⟨f, oc, od, T, kV, doc, pm, an, cd, ct, sl, o, its, n, a, l, c, k, t, d, v⟩
def DefD (K : PySem.W.Frag) (mg : Str → Option Value) (x : Str) (st : Stmt) (dvs : List V) : Prop := ∃ f fd, FunD K x x (defArgs st) (defBody st) (defScope st) dvs [] f fd ∧ mg x = some (.ref f)
theorem defD_of {K : PySem.W.Frag} {h : Heap} {mg : Str → Option Value} {x : Str} {st : Stmt} {dvs : List V} (X : K.In h) (G : h.Ns mainGlobals mg) (hd : dvs ≠ []) (d : DefKD K x st dvs) : DefD K mg x st dvs := by
  obtain ⟨f, oc, od, T, kV, doc, pm, an, cd, ct, sl, o, its, n, a, l, c, k, t, dt, v⟩ := d
  exact ⟨f, _, ⟨⟨oc, od, .ref T, kV, doc, pm, an, cd, ct, sl, rfl, l, c, .inr ⟨hd, T, o, its, n, rfl, t, dt, v⟩, .inl rfl⟩, k⟩, PySem.W.mg_of X G a⟩
theorem fnM_ofD {K : PySem.W.Frag} {h : Heap} {mg : Str → Option Value} {x : Str} {st : Stmt} {dvs : List V} (X : K.In h) (G : h.Ns mainGlobals mg) (d : DefKD K x st dvs) : FnM K mg x := by
  obtain ⟨f, oc, od, T, kV, doc, pm, an, cd, ct, sl, o, its, n, a, l, c, k, t, dt, v⟩ := d
  exact ⟨f, PySem.W.mg_of X G a, a⟩
/-- a def with defaults that keeps its promise: n arguments are written, the others are dd -/
def CalD (P : Program) (w : World) (K : PySem.W.Frag) (mg : Str → Option Value) (base : Heap) (x : Str) (ps : List Str) (n : Nat) (dd : List D) (k : Nat) (m : List D → R D) : Prop :=
  ∃ f fd ds dvs, mg x = some (.ref f) ∧ PySem.W.keepIn K (.ref f) = true ∧ Binds K fd ps ds ∧ Vals dvs ds ∧ (∀ H, Rds K H dvs dd) ∧ n + dd.length = ps.length ∧ FnOk P w K mg base (L2.CX P w) k f fd ps (spF K mg ps.length m)
section
variable {P : Program} {w : World} {K : PySem.W.Frag} {mg : Str → Option Value} {base : Heap}
theorem fnD_ok {x qual : Str} {st : Stmt} {f : Addr} {fd : FuncData} {N ps : List Str} {k : Nat} {own' : List Nat} {b : Env → Sr} {dvs : List V} (F : FunD K x qual (defArgs st) (defBody st) (defScope st) dvs [] f fd) (S : FnScope N ps (defScope st)) (hps : ps.length ≤ N.length)
    (hbody : ∀ (cdv : Value) (A : Around) (outer : List PySem.Env) (s : Shared) (H : Hp) (E : XK), Room k (A.deeper (envOfC qual (defScope st) s.heap.objs.size f cdv)) →
      VSs (cxOf (L2.CX P w) P w K mg base N qual (defScope st) f cdv A outer s H E) (fun cls d _ H => E cls d H) [] own' nol (defBody st) b) :
    FnOk P w K mg base (L2.CX P w) (k + 1) f fd ps (spF K mg ps.length (runB N.length b)) := by
  refine F.ok S (fun vs H Q E h => h.1) (fun cdv A outer s H vs Q E hr h => ?_)
  obtain ⟨hl, tb, ds, r, h⟩ := h
  refine ⟨_, (hbody cdv A outer s H E hr).ps, H, _, start_env tb r (by rw [hl]; exact hps), Pin.nol, ?_⟩
  unfold runB at h
  generalize b (ds.map some ++ List.replicate (N.length - ds.length) none) = q at h
  cases q with
  | st => exact h
  | nx ρ => exact fun σ H' y _ => h .non H' [] y.base .non (fun _ z => nomatch z)
  | rt d => exact h
  | rb d ρ => exact h.elim
  | bk ρ => exact h.elim
  | ct ρ => exact h.elim
  | ex c ρ =>
    obtain ⟨C, h1, h2⟩ := h
    exact ⟨C, h1, fun σ H' y _ => h2 H' y.base⟩
theorem calD_mk {x : Str} {st : Stmt} {N ps : List Str} {k : Nat} {own' : List Nat} {b : Env → Sr} {dvs : List V} (F : DefD K mg x st dvs) (S : FnScope N ps (defScope st)) (hps : ps.length ≤ N.length) (n j : Nat) (dd : List D) (hr : ∀ H, Rds K H (dvs.drop j) dd) (hd : dvs ≠ []) (hn : n + (dvs.length - j) = ps.length)
    (hb : ∀ (T : Addr) (kV doc pm : Value) (an : Option Addr) (cdv ct : Value) (us its : List Value), us.length = n → its.length = dvs.length →
      ∃ k, bindArgs (PySem.W.fnOf x x (defArgs st) (defBody st) (defScope st) (.ref T) kV doc pm an cdv ct) ⟨us, []⟩ = seqItems? (.ref T) >>= k ∧ k (some its.toArray) = pure (ps.zip (us ++ its.drop j)))
    (hbody : ∀ (f : Addr) (cdv : Value) (A : Around) (outer : List PySem.Env) (s : Shared) (H : Hp) (E : XK), Room k (A.deeper (envOfC x (defScope st) s.heap.objs.size f cdv)) →
      VSs (cxOf (L2.CX P w) P w K mg base N x (defScope st) f cdv A outer s H E) (fun cls d _ H => E cls d H) [] own' nol (defBody st) b) :
    CalD P w K mg base x ps n dd (k + 1) (runB N.length b) := by
  obtain ⟨f, fd, F, h⟩ := F
  obtain ⟨ds, v, bn⟩ := F.binds1 n j hd hn hb
  refine ⟨f, fd, ds, _, h, F.kp, bn, v, hr, ?_, fnD_ok F S hps (fun cdv A outer s H E hr => hbody f cdv A outer s H E hr)⟩
  have := (hr (fun _ => none)).length
  rw [List.length_drop] at this
  omega
/-- all arguments are written -/
theorem CalD.all {x : Str} {ps : List Str} {n k : Nat} {m : List D → R D} (C : CalD P w K mg base x ps n [] k m) : Cal P w K mg base x ps k m := by
  obtain ⟨f, fd, ds, dvs, h1, h2, h3, v, r, hn, h4⟩ := C
  have r := r (fun _ => none)
  cases r
  cases v
  exact ⟨f, fd, h1, h2, h3, h4⟩
def dflA (fs : Env → R (List D)) (dd : List D) (ρ : Env) : R (List D) := (fs ρ).bind fun ds => .ok (ds ++ dd)
theorem vg_fnD {X : Cx} {W : WX} {x : Str} {ps : List Str} {n k k' : Nat} {dd : List D} {m : List D → R D} {p pos : Pos} {e : Expr} {es : List Expr} {fs : Env → R (List D)} (C : CalD X.prog X.w X.K X.mg X.base x ps n dd k m) (hr : Room k' X.A) (tk : Takes X W) (hg : Gl X x)
    (ha : VA X W (e :: es) fs) (hl : LenA fs n) (hk : k ≤ k' := by decide) (hdb : (x == ("__debug__" : Str)) = false := by decide) (he : starEach (e :: es) X.env = (false, eval e X.env) :: starEach es X.env := by rfl) (hpl : (backTo pos (starEach es X.env)).any (·.1) = false := by rfl) :
    VG X W (.Call (.Name x p) (e :: es) [] pos) (callF m (dflA fs dd)) := by
  obtain ⟨f, fd, ds, dvs, h1, h2, h3, v, r, hn, h4⟩ := C
  exact ⟨peW (pe_callSD h4 (hr.mono hk) hg h1 h2 h3 v (fun σ => passAt tk σ) ha.pa hdb he hpl) fun σ H Q ⟨ρ, re, o⟩ => ⟨ρ, re, (Out.bind (Out.bind o)).mono fun ds hd q vs H1 s1 r1 => by
    refine ⟨?_, re.tabs.up s1, ds ++ dd, r1.app (r H1), ?_⟩
    · rw [List.length_append, r1.length, hl ρ ds hd, (r H1).length]
      exact hn
    · have q : Out X.mg W σ H (m (ds ++ dd)) _ := q
      cases hz : m (ds ++ dd) with
      | ok d => rw [hz] at q; exact fun v H' A s2 f2 n2 => q v H' A (s1.trans s2) f2 fun a z => s1.free (n2 a z)
      | ex c => rw [hz] at q; obtain ⟨C, h1, h2⟩ := q; exact ⟨C, h1, fun H' s2 => h2 H' (s1.trans s2)⟩
      | st => rw [hz] at q; exact q.elim⟩⟩
end
end Vs

namespace Vs
open PySem PySem.Spec PyProof.Rows L2

/-! ### defs that are given their arguments -/
theorem fus_split {K : PySem.W.Frag} {H : Hp} : ∀ {vs : List V} {ds : List D} {A : List Addr}, Fus K H vs ds A →
    ∃ F : Nat → List Addr, (∀ i d, ds[i]? = some d → ∃ v, vs[i]? = some v ∧ Fu K H v d (F i)) ∧ (∀ i, ∀ a ∈ F i, a ∈ A) ∧ ∀ i j, i ≠ j → ∀ a ∈ F i, a ∉ F j
  | _, _, _, .nil => ⟨fun _ => [], (fun i d h => by simp at h), (fun _ _ h => nomatch h), fun _ _ _ _ h => nomatch h⟩
  | _, _, _, @Fus.cons _ _ v vs d ds A B h r m => by
    obtain ⟨F, h1, h2, h3⟩ := fus_split r
    refine ⟨fun i => match i with | 0 => A | i + 1 => F i, fun i e q => ?_, fun i a ha => ?_, fun i j ne a ha hb => ?_⟩
    · cases i with
      | zero => simp at q; subst q; exact ⟨v, rfl, h⟩
      | succ i => simpa using h1 i e (by simpa using q)
    · cases i with
      | zero => exact List.mem_append_left _ ha
      | succ i => exact List.mem_append_right _ (h2 i a ha)
    · cases i with
      | zero => cases j with
        | zero => exact ne rfl
        | succ j => exact m a ha (h2 j a hb)
      | succ i => cases j with
        | zero => exact m a hb (h2 i a ha)
        | succ j => exact h3 i j (fun e => ne (by rw [e])) a ha hb
theorem start_own {K : PySem.W.Frag} {S H : Hp} {N : List Str} {vs : List V} {ds : List D} {A : List Addr} (own : List Nat) (f : Fus K H vs ds A) (hl : vs.length ≤ N.length) (tb : TabsL S) (s : Same S H) (cl : ∀ a o, H a = some o → Stt o → NTb o → S a = some o) (hA : ∀ a ∈ A, S a = none) (ho : ∀ i, i < vs.length → i ∈ own) :
    Sta own S K (ds.map some ++ List.replicate (N.length - ds.length) none) (L2.start N vs) H := by
  obtain ⟨F, h1, h2, h3⟩ := fus_split f
  refine ⟨S, F, Same.refl S, ?_, s, cl, tb, fun i d q => ?_, fun i m a ha => ⟨hA a (h2 i a ha), f.soft a (h2 i a ha)⟩, fun i _ j _ ne => h3 i j ne⟩
  · unfold L2.start
    simp [f.length]
  · rw [List.getElem?_append] at q
    split at q
    · rename_i hi
      rw [List.getElem?_map] at q
      cases e : ds[i]? with
      | none => rw [e] at q; cases q
      | some d' =>
        rw [e] at q
        cases q
        obtain ⟨v, g1, g2⟩ := h1 i _ e
        have hi2 : i < vs.length := by rw [f.length]; simpa using hi
        refine ⟨v, ?_, fun _ => g2, fun m => absurd (ho i hi2) m⟩
        unfold L2.start
        rw [List.getElem?_append_left (by rw [List.length_map]; exact hi2), List.getElem?_map, g1]
        rfl
    · rw [List.getElem?_replicate] at q
      split at q <;> cases q
/-- what a def does with arguments that are given to it -/
def spG (K : PySem.W.Frag) (mg : Str → Option Value) (n : Nat) (m : List D → R D) : Sp := fun vs H Q E => vs.length = n ∧ ∃ S ds A, Same S H ∧ (∀ a o, H a = some o → Stt o → NTb o → S a = some o) ∧ TabsL S ∧ Fus K H vs ds A ∧ (∀ a ∈ A, S a = none) ∧ match m ds with
  | .ok d => ∀ v H' A, Same S H' → Fu K H' v d A → (∀ a ∈ A, S a = none) → Q v H'
  | .ex c => ∃ C, mg c = some (.ref C) ∧ ∀ H', Same S H' → E (.ref C) none H'
  | .st => False
def CalG (P : Program) (w : World) (K : PySem.W.Frag) (mg : Str → Option Value) (base : Heap) (x : Str) (ps : List Str) (k : Nat) (m : List D → R D) : Prop :=
  ∃ f fd, mg x = some (.ref f) ∧ PySem.W.keepIn K (.ref f) = true ∧ Binds K fd ps [] ∧ FnOk P w K mg base (L2.CX P w) k f fd ps (spG K mg ps.length m)
section
variable {P : Program} {w : World} {K : PySem.W.Frag} {mg : Str → Option Value} {base : Heap}
theorem calG_mk {x : Str} {st : Stmt} {N ps : List Str} {k : Nat} {own own' : List Nat} {b : Env → Sr} (F : Def K mg x st) (S : FnScope N ps (defScope st)) (hps : ps.length ≤ N.length) (ho : ∀ i, i < ps.length → i ∈ own)
    (hb : ∀ (kV doc pm : Value) (an : Option Addr) (cdv ct : Value) (us : List Value), us.length = ps.length → bindArgs (PySem.W.fnOf x x (defArgs st) (defBody st) (defScope st) .none kV doc pm an cdv ct) ⟨us, []⟩ = pure (ps.zip us))
    (hbody : ∀ (f : Addr) (cdv : Value) (A : Around) (outer : List PySem.Env) (s : Shared) (H : Hp) (E : XK), Room k (A.deeper (envOfC x (defScope st) s.heap.objs.size f cdv)) →
      VSs (cxOf (L2.CX P w) P w K mg base N x (defScope st) f cdv A outer s H E) (fun cls d _ H => E cls d H) own own' nol (defBody st) b) :
    CalG P w K mg base x ps (k + 1) (runB N.length b) := by
  obtain ⟨f, fd, F, h⟩ := F
  refine ⟨f, fd, h, F.kp, F.binds hb, F.okX S (fun vs H Q E h => h.1) (fun cdv A outer s H vs Q E hr h => ?_)⟩
  obtain ⟨hl, S0, ds, A0, s0, cl, tb, fu, hA, h⟩ := h
  refine ⟨_, (hbody f cdv A outer s H E hr).ps, S0, _, start_own own fu (by rw [hl]; exact hps) tb s0 cl hA (by rw [hl]; exact ho), Pin.nol, ?_⟩
  unfold runB at h
  generalize b (ds.map some ++ List.replicate (N.length - ds.length) none) = q at h
  cases q with
  | st => exact h
  | nx ρ => exact fun σ H' y _ => h .non H' [] y.base .non (fun _ z => nomatch z)
  | rt d => exact h
  | rb d ρ => exact h.elim
  | bk ρ => exact h.elim
  | ct ρ => exact h.elim
  | ex c ρ =>
    obtain ⟨C, h1, h2⟩ := h
    exact ⟨C, h1, fun σ H' y _ => h2 H' y.base⟩
theorem vg_fnG {X : Cx} {W : WX} {x : Str} {ps : List Str} {k k' : Nat} {m : List D → R D} {p pos : Pos} {e : Expr} {es : List Expr} {fs : Env → R (List D)} (C : CalG X.prog X.w X.K X.mg X.base x ps k m) (hr : Room k' X.A) (tk : Takes X W) (hg : Gl X x)
    (ha : VB X W (e :: es) fs) (hl : LenA fs ps.length) (hk : k ≤ k' := by decide) (hdb : (x == ("__debug__" : Str)) = false := by decide) (he : starEach (e :: es) X.env = (false, eval e X.env) :: starEach es X.env := by rfl) (hpl : (backTo pos (starEach es X.env)).any (·.1) = false := by rfl) :
    VG X W (.Call (.Name x p) (e :: es) [] pos) (callF m fs) := by
  obtain ⟨f, fd, h1, h2, h3, h4⟩ := C
  exact ⟨peW (pe_callS h4 (hr.mono hk) hg h1 h2 h3 (fun σ => passAt tk σ) ha.pa hdb he hpl) fun σ H Q ⟨ρ, re, o⟩ => ⟨ρ, re, (Out.bind o).mono fun ds hd q vs H1 A s1 f1 n1 => by
    refine ⟨f1.length.trans (hl ρ ds hd), ext H H1 [], ds, A, ext_h s1 [], fun a o e t n => ext_stt s1 e t n, re.tabs.up (ext_s _), f1, fun a ha => ?_, ?_⟩
    · obtain ⟨o, g1, g2⟩ := f1.soft a ha
      exact ext_none (n1 a ha) (fun z => nomatch z) fun o' e' => by rw [g1] at e'; cases e'; exact g2
    · cases hz : m ds with
      | ok d => rw [hz] at q; exact fun v H' A s2 f2 n2 => q v H' A ((ext_s []).trans s2) f2 fun a z => (ext_s (S := H) (H := H1) []).free (n2 a z)
      | ex c => rw [hz] at q; obtain ⟨C, h1, h2⟩ := q; exact ⟨C, h1, fun H' s2 => h2 H' ((ext_s []).trans s2)⟩
      | st => rw [hz] at q; exact q.elim⟩⟩
end

/-! ### an item of what is new -/
def ownIx (d k : D) : R D := match d, k with
  | .lst xs, .int i => match atI xs i with
    | some e => .ok e
    | none => .st
  | .tup xs, .int i => match atI xs i with
    | some e => .ok e
    | none => .st
  | _, _ => .st
theorem atI_fu {K : PySem.W.Frag} {H : Hp} {vs : List V} {ds : List D} {A : List Addr} (r : Fus K H vs ds A) {i : Int} {d : D} (h : atI ds i = some d) : ∃ v A', atI vs i = some v ∧ Fu K H v d A' ∧ ∀ a ∈ A', a ∈ A := by
  unfold atI at h ⊢
  rw [r.length]
  cases e : ixN ds.length i with
  | none => rw [e] at h; cases h
  | some j => rw [e] at h; exact r.get h
theorem vg_ixG {X : Cx} {W : WX} {a b : Expr} {f g : Env → R D} {pos : Pos} (ha : VG X W a f) (hb : VE X W b g) (hs : PlainIx b) : VG X W (.Subscript a b pos) (op2 ownIx f g) :=
  ⟨peW (pe_ix ix_seq ha.pe hb.pe hs) fun σ H Q ⟨ρ, re, o⟩ => ⟨ρ, re, (Out.bind o).mono fun d _ q v H1 A s1 f1 n1 => ⟨ρ, re.mono s1, ((Out.bind q).up s1).mono fun e _ q w H2 s2 r2 => by
    unfold ownIx at q
    split at q
    · split at q
      · rename_i hx
        cases r2
        cases f1 with
        | lst h1 r1 hn =>
          obtain ⟨u, A', hu, ru, sub⟩ := atI_fu r1 hx
          exact .inl ⟨_, _, _, u, rfl, rfl, s2.seq (SqL.of h1), hu, q u H2 A' (s1.trans s2) (ru.same s2) fun a ha => n1 a (List.mem_cons_of_mem _ (sub a ha))⟩
      · exact q.elim
    · split at q
      · rename_i hx
        cases r2
        cases f1 with
        | tup h1 r1 =>
          obtain ⟨u, A', hu, ru, sub⟩ := atI_fu r1 hx
          exact .inr (.inl ⟨_, _, _, u, rfl, rfl, (seqT s2 h1).sq, hu, q u H2 A' (s1.trans s2) (ru.same s2) fun a ha => n1 a (sub a ha)⟩)
      · exact q.elim
    · exact q.elim⟩⟩⟩
end Vs

namespace Vs
open PySem PySem.Spec PyProof.Rows L2

/-! ### a loop over lists that slots own, and go on owning behind it -/
def setsE (f : Nat → Option D) : List Nat → Env → Env
  | [], ρ => ρ
  | j :: J, ρ => (setsE f J ρ).set j (f j)
theorem setsE_length (f : Nat → Option D) : ∀ (J : List Nat) (ρ : Env), (setsE f J ρ).length = ρ.length
  | [], _ => rfl
  | j :: J, ρ => by rw [setsE, List.length_set, setsE_length f J ρ]
theorem setsE_out {f : Nat → Option D} : ∀ {J : List Nat} {ρ : Env} {k : Nat}, k ∉ J → (setsE f J ρ)[k]? = ρ[k]?
  | [], _, _, _ => rfl
  | j :: J, ρ, k, h => by
    rw [setsE, List.getElem?_set_ne fun e => h (by rw [e]; exact List.mem_cons_self)]
    exact setsE_out fun z => h (List.mem_cons_of_mem _ z)
theorem setsE_in {f : Nat → Option D} : ∀ {J : List Nat} {ρ : Env} {k : Nat}, k ∈ J → k < ρ.length → (setsE f J ρ)[k]? = some (f k)
  | j :: J, ρ, k, h, hl => by
    rw [setsE]
    by_cases e : j = k
    · subst e
      rw [List.getElem?_set_self (by rw [setsE_length]; exact hl)]
    · rw [List.getElem?_set_ne e]
      exact setsE_in ((List.mem_cons.mp h).resolve_left (Ne.symm e)) hl
def tokE (α : Nat → Addr) (J : List Nat) (ρ : Env) : Env := setsE (fun j => some (.exc "" (α j))) J ρ
def restE (J : List Nat) (ρ0 ρ : Env) : Env := setsE (fun j => (ρ0[j]?).getD none) J ρ
def softB (o : Option (Option D)) : Bool := match o with
  | some (some d) => !immD d
  | _ => false
def softJ (M : List Nat) (ρ : Env) : List Nat := M.filter fun j => softB ρ[j]?
def keepO (b : Bool) (o : Option D) : Option D := match o with
  | some d => if b || immD d then some d else none
  | none => none
def dropE (L : List Nat) : Nat → Env → Env
  | _, [] => []
  | k, o :: ρ => keepO (decide (k ∈ L)) o :: dropE L (k + 1) ρ
theorem dropE_length (L : List Nat) : ∀ (k : Nat) (ρ : Env), (dropE L k ρ).length = ρ.length
  | _, [] => rfl
  | k, o :: ρ => by rw [dropE, List.length_cons, List.length_cons, dropE_length L (k + 1) ρ]
theorem dropE_get (L : List Nat) : ∀ (k : Nat) (ρ : Env) (i : Nat), (dropE L k ρ)[i]? = (ρ[i]?).map (keepO (decide (k + i ∈ L)))
  | _, [], _ => by simp [dropE]
  | k, o :: ρ, 0 => by simp [dropE]
  | k, o :: ρ, i + 1 => by
    rw [dropE, List.getElem?_cons_succ, List.getElem?_cons_succ, dropE_get L (k + 1) ρ i]
    rw [show k + 1 + i = k + (i + 1) by omega]
def tokR (α : Nat → Addr) (J : List Nat) : Sr → Sr
  | .nx ρ => .nx (tokE α J ρ)
  | .rt d => .rt d
  | _ => .st
def finF (own J : List Nat) (ρ0 : Env) : Sr → Sr
  | .nx ρ => .nx (dropE (own ++ J) 0 (restE J ρ0 ρ))
  | .rt d => .rt d
  | _ => .st
theorem tok_rest {α : Nat → Addr} {J : List Nat} {ρ0 ρ1 ρ2 : Env} (h : tokE α J ρ1 = tokE α J ρ2) : restE J ρ0 ρ1 = restE J ρ0 ρ2 := by
  have hl : ρ1.length = ρ2.length := by
    have := congrArg List.length h
    unfold tokE at this
    rw [setsE_length, setsE_length] at this
    exact this
  unfold restE
  apply List.ext_getElem?
  intro k
  by_cases hk : k ∈ J
  · by_cases hlt : k < ρ1.length
    · rw [setsE_in hk hlt, setsE_in hk (by omega)]
    · rw [List.getElem?_eq_none (by rw [setsE_length]; omega), List.getElem?_eq_none (by rw [setsE_length]; omega)]
  · rw [setsE_out hk, setsE_out hk]
    have := congrArg (fun l => l[k]?) h
    unfold tokE at this
    skip
    rw [setsE_out hk, setsE_out hk] at this
    exact this
theorem tokR_fin {α : Nat → Addr} {own J : List Nat} {ρ0 : Env} {r r' : Sr} (h : tokR α J r = tokR α J r') : finF own J ρ0 r = finF own J ρ0 r' := by
  unfold tokR at h
  cases r <;> cases r' <;> first
    | rfl
    | (injection h with h; unfold finF; simp only; rw [tok_rest h])
    | (injection h with h; subst h; rfl)
    | (simp at h)
open Classical in
noncomputable def lendF (own I M : List Nat) (L : List D → Env → Sr) (ds : List D) (ρ : Env) : Sr :=
  if I.all (fun i => softB ρ[i]?) = true then
    (if h : ∃ r : Sr, ∀ α, L ds (tokE α (softJ (I ++ M) ρ) ρ) = tokR α (softJ (I ++ M) ρ) r then finF own (softJ (I ++ M) ρ) ρ (Classical.choose h) else .st)
  else .st
theorem lendF_eq {own I M : List Nat} {L : List D → Env → Sr} {ds : List D} {ρ : Env} (r : Sr) (hI : I.all (fun i => softB ρ[i]?) = true) (h : ∀ α, L ds (tokE α (softJ (I ++ M) ρ) ρ) = tokR α (softJ (I ++ M) ρ) r) :
    lendF own I M L ds ρ = finF own (softJ (I ++ M) ρ) ρ r := by
  have hx : ∃ r : Sr, ∀ α, L ds (tokE α (softJ (I ++ M) ρ) ρ) = tokR α (softJ (I ++ M) ρ) r := ⟨r, h⟩
  unfold lendF
  rw [if_pos hI, dif_pos hx]
  have h2 := Classical.choose_spec hx
  exact tokR_fin (α := fun _ => 0) ((h2 _).symm.trans (h _))
noncomputable def forF (own I M : List Nat) (fi : Env → R (List D)) (tf : D → Env → Option Env) (b : Env → Sr) (ρ : Env) : Sr := bindS (fi ρ) ρ fun ds => lendF own I M (forL tf b) ds ρ
section
variable {K : PySem.W.Frag} {H H' S B : Hp} {own own' : List Nat} {F : Nat → List Addr} {ρ : Env} {σ : L2.St}
/-- fewer slots own: what stays from now on, by name -/
theorem Stx.weakX (h : Stx own K S F ρ σ H) (w : ∀ i ∈ own', i ∈ own) : Stx own' K (ext S H ((own.filter (fun i => decide (i ∉ own'))).flatMap F)) F ρ σ H := by
  refine ⟨h.len, ext_h h.sub _, fun a o e t n => ext_stt h.sub e t n, h.tabs.up (ext_s _), fun i d q => ?_, fun i m a ha => ?_, fun i mi j mj => h.dis i (w i mi) j (w j mj)⟩
  · obtain ⟨v, h1, h2, h3⟩ := h.val i d q
    refine ⟨v, h1, fun m => h2 (w i m), fun m => ?_⟩
    by_cases mo : i ∈ own
    · exact (h2 mo).ext h.sub fun a ha => List.mem_flatMap.mpr ⟨i, List.mem_filter.mpr ⟨mo, by simpa using m⟩, ha⟩
    · exact (h3 mo).mono (ext_s _)
  · obtain ⟨h1, o, h2, h3⟩ := h.out i (w i m) a ha
    refine ⟨ext_none h1 (fun z => ?_) (fun o' e => ?_), o, h2, h3⟩
    · obtain ⟨j, hj, hz⟩ := List.mem_flatMap.mp z
      obtain ⟨hj1, hj2⟩ := List.mem_filter.mp hj
      have hj2 : j ∉ own' := by simpa using hj2
      exact h.dis i (w i m) j hj1 (fun e => hj2 (e ▸ m)) a ha hz
    · rw [h2] at e; cases e; exact h3
theorem rd_soft {v : V} {d : D} (r : Rd K H v d) (m : immD d = false) : ∃ a, v = .ref a := by
  cases r <;> first | exact ⟨_, rfl⟩ | (exact absurd m (by simp [immD]))
def refA (σ : L2.St) (j : Nat) : Addr := match σ[j]? with
  | some (some (.ref a)) => a
  | _ => 0
theorem softJ_get {M : List Nat} {ρ : Env} {j : Nat} (h : j ∈ softJ M ρ) : j ∈ M ∧ ∃ d, ρ[j]? = some (some d) ∧ immD d = false := by
  obtain ⟨h1, h2⟩ := List.mem_filter.mp h
  unfold softB at h2
  split at h2
  · rename_i d e
    exact ⟨h1, d, e, by simpa using h2⟩
  · cases h2
/-- the lists lent out come back -/
theorem lend_back {own own1 I M : List Nat} {S2 : Hp} {F2 : Nat → List Addr} {ρ' : Env} {σ' : L2.St} {S1 : Hp} (st : Stx own K S F ρ σ H) (hI : ∀ i ∈ I, i ∈ own) (hM : ∀ j ∈ M, j ∉ own) (h1 : ∀ i, i ∈ own1 ↔ i ∈ own ∧ i ∉ I)
    (hs : I.all (fun i => softB ρ[i]?) = true) (s1 : Same S S1) (hF : ∀ i ∈ I, ∀ a ∈ F i, ∀ o, H a = some o → NTb o → S1 a = some o) (ht : ∀ b o, Stt o → NTb o → H b = some o → S1 b = some o) (s2 : Same S1 S2)
    (x : Stx own1 K S2 F2 (tokE (refA σ) (softJ (I ++ M) ρ) ρ') σ' H') : Sta own S K (dropE (own1 ++ softJ (I ++ M) ρ) 0 (restE (softJ (I ++ M) ρ) ρ ρ')) σ' H' := by
  classical
  have inJ : ∀ i ∈ I, i ∈ softJ (I ++ M) ρ := fun i hi => List.mem_filter.mpr ⟨List.mem_append_left _ hi, List.all_eq_true.mp hs i hi⟩
  have hS2 : ∀ i ∈ I, ∀ a ∈ F i, ∃ o, H a = some o ∧ S2 a = some o ∧ ¬ Stt o := fun i hi a ha => by
    obtain ⟨_, o, g1, g2⟩ := st.out i (hI i hi) a ha
    exact ⟨o, g1, s2.mv (hF i hi a ha o g1 (nst g2)) (nst g2), g2⟩
  have noS : ∀ a, a ∈ I.flatMap F → S a = none := fun a h => by
    obtain ⟨i, hi, ha⟩ := List.mem_flatMap.mp h
    exact (st.out i (hI i hi) a ha).1
  have nI : ∀ {more : Array Value} {Hx : Hp}, MoreOk S2 more → (∀ b o, S2 b = some o → Stt o → NTb o → b ∉ I.flatMap F → Hx b = some o) → MoreOk Hx more := fun m k => ⟨m.1, fun pos cv hc => by
    obtain ⟨c, e, h⟩ := m.2 pos cv hc
    refine ⟨c, e, k _ _ h True.intro True.intro fun z => ?_⟩
    obtain ⟨i, hi, ha⟩ := List.mem_flatMap.mp z
    obtain ⟨o', _, g2, g3⟩ := hS2 i hi c ha
    rw [h] at g2
    cases g2
    exact g3 True.intro⟩
  have k1 : Same S (fun a => if a ∈ I.flatMap F then none else S2 a) := ⟨fun a o e n => by
    show (if a ∈ I.flatMap F then none else S2 a) = some o
    rw [if_neg fun z => by rw [noS a z] at e; cases e]
    exact s2.mv (s1.mv e n) n, fun a ps e => by
    obtain ⟨more, e1, k⟩ := (s1.trans s2).tab a ps e
    refine ⟨more, ?_, nI k fun b o h _ _ z => ?_⟩
    · show (if a ∈ I.flatMap F then none else S2 a) = _
      rw [if_neg fun z => by rw [noS a z] at e; cases e]
      exact e1
    · show (if b ∈ I.flatMap F then none else S2 b) = _
      rw [if_neg z]
      exact h⟩
  have k2 : Same (fun a => if a ∈ I.flatMap F then none else S2 a) H' := ⟨fun a o e n => by
    have e : (if a ∈ I.flatMap F then none else S2 a) = some o := e
    split at e
    · cases e
    · exact x.sub.mv e n, fun a ps e => by
    have e : (if a ∈ I.flatMap F then none else S2 a) = some (.tbl ps) := e
    split at e
    · cases e
    · exact x.sub.tab a ps e⟩
  refine ⟨fun a => if a ∈ I.flatMap F then none else S2 a, fun k => if k ∈ I then F k else F2 k, k1, ?_, k2, fun a o e t n => ?_, st.tabs.up k1, fun k d q => ?_, fun k m a ha => ?_, fun k mk j mj ne a ha hb => ?_⟩
  · have := x.len
    unfold tokE at this
    rw [setsE_length] at this
    rw [dropE_length]
    unfold restE
    rw [setsE_length]
    exact this
  · skip
    rw [if_neg fun z => ?_]
    · exact x.cl a o e t n
    · obtain ⟨i, hi, ha⟩ := List.mem_flatMap.mp z
      obtain ⟨o', _, g2, g3⟩ := hS2 i hi a ha
      rw [x.sub.mv g2 (nst g3)] at e
      cases e
      exact g3 t
  · rw [dropE_get] at q
    rw [Nat.zero_add] at q
    cases e0 : (restE (softJ (I ++ M) ρ) ρ ρ')[k]? with
    | none => rw [e0] at q; cases q
    | some o =>
      rw [e0] at q
      have q : keepO (decide (k ∈ own1 ++ softJ (I ++ M) ρ)) o = some d := Option.some.inj q
      cases o with
      | none => cases q
      | some d0 =>
        unfold keepO at q
        simp only at q
        split at q
        · rename_i cond
          cases q
          have hlen : k < ρ'.length := by
            have := List.getElem?_eq_some_iff.mp e0
            obtain ⟨h, _⟩ := this
            unfold restE at h
            rw [setsE_length] at h
            exact h
          by_cases hJ : k ∈ softJ (I ++ M) ρ
          · unfold restE at e0
            rw [setsE_in hJ hlen] at e0
            obtain ⟨hm, d1, g1, g2⟩ := softJ_get hJ
            rw [g1] at e0
            have e0 : d1 = d := by simpa using e0
            subst e0
            -- the value is the same
            have tk : (tokE (refA σ) (softJ (I ++ M) ρ) ρ')[k]? = some (some (.exc "" (refA σ k))) := by unfold tokE; rw [setsE_in hJ hlen]
            obtain ⟨v, j1, j2, j3⟩ := x.val k _ tk
            obtain ⟨w, l1, l2, l3⟩ := st.val k d1 g1
            have rv : v = .ref (refA σ k) := by
              by_cases m1 : k ∈ own1
              · have := (j2 m1).rd; cases this; rfl
              · have := j3 m1; cases this; rfl
            have rw_ : w = .ref (refA σ k) := by
              have rr : Rd K H w d1 := by
                by_cases mo : k ∈ own
                · exact (l2 mo).rd
                · exact (l3 mo).mono st.sub
              obtain ⟨a, ea⟩ := rd_soft rr g2
              unfold refA
              rw [l1, ea]
            refine ⟨w, by rw [j1, rv, rw_], fun mo => ?_, fun mo => ?_⟩
            · have hk : k ∈ I := by
                rcases List.mem_append.mp hm with z | z
                · exact z
                · exact absurd mo (hM k z)
              rw [if_pos hk]
              refine (l2 mo).at (fun a ha => ?_) fun b o st' n h => ?_
              · obtain ⟨o, e1, e2, nn⟩ := hS2 k hk a ha
                rw [e1]
                exact x.sub.mv e2 (nst nn)
              · exact x.sub.mv (s2.mv (ht b o st' n h) n) n
            · exact (l3 mo).mono k1
          · unfold restE at e0
            rw [setsE_out hJ] at e0
            have tk : (tokE (refA σ) (softJ (I ++ M) ρ) ρ')[k]? = some (some d) := by unfold tokE; rw [setsE_out hJ, e0]
            have nI : k ∉ I := fun z => hJ (inJ k z)
            obtain ⟨v, j1, j2, j3⟩ := x.val k _ tk
            refine ⟨v, j1, fun mo => ?_, fun mo => ?_⟩
            · rw [if_neg nI]
              exact j2 ((h1 k).mpr ⟨mo, nI⟩)
            · have n1 : k ∉ own1 := fun z => mo ((h1 k).mp z).1
              have im : immD d = true := by
                have : decide (k ∈ own1 ++ softJ (I ++ M) ρ) = false := decide_eq_false fun z => (List.mem_append.mp z).elim n1 hJ
                rw [this] at cond
                simpa using cond
              refine (((j3 n1).fu im).at (H' := fun a => if a ∈ I.flatMap F then none else S2 a) (fun a ha => nomatch ha) fun b o st' nt h => ?_).rd
              show (if b ∈ I.flatMap F then none else S2 b) = some o
              rw [if_neg fun z => ?_]
              · exact h
              · obtain ⟨i, hi, ha⟩ := List.mem_flatMap.mp z
                obtain ⟨o', _, g2, g3⟩ := hS2 i hi b ha
                have h : S2 b = some o := h
                rw [h] at g2
                cases g2
                exact g3 st'
        · cases q
  · by_cases hk : k ∈ I
    · rw [if_pos hk] at ha
      obtain ⟨o, e1, e2, e3⟩ := hS2 k hk a ha
      refine ⟨?_, o, x.sub.mv e2 (nst e3), e3⟩
      skip
      rw [if_pos (List.mem_flatMap.mpr ⟨k, hk, ha⟩)]
    · rw [if_neg hk] at ha
      obtain ⟨e1, o, e2, e3⟩ := x.out k ((h1 k).mpr ⟨m, hk⟩) a ha
      refine ⟨?_, o, e2, e3⟩
      skip
      split
      · rfl
      · exact e1
  · by_cases hk : k ∈ I
    · rw [if_pos hk] at ha
      by_cases hj : j ∈ I
      · rw [if_pos hj] at hb
        exact st.dis k (hI k hk) j (hI j hj) ne a ha hb
      · rw [if_neg hj] at hb
        have := (x.out j ((h1 j).mpr ⟨mj, hj⟩) a hb).1
        obtain ⟨o, _, e2, _⟩ := hS2 k hk a ha
        rw [this] at e2; cases e2
    · rw [if_neg hk] at ha
      by_cases hj : j ∈ I
      · rw [if_pos hj] at hb
        have := (x.out k ((h1 k).mpr ⟨mk, hk⟩) a ha).1
        obtain ⟨o, _, e2, _⟩ := hS2 j hj a hb
        rw [this] at e2; cases e2
      · rw [if_neg hj] at hb
        exact x.dis k ((h1 k).mpr ⟨mk, hk⟩) j ((h1 j).mpr ⟨mj, hj⟩) ne a ha hb
end
section
variable {X : Cx} {W : WX} {own own1 I M slots : List Nat} {ol : Ol} {tg iter : Expr} {body : List Stmt} {fi : Env → R (List D)} {tf : D → Env → Option Env} {b : Env → Sr} {pos : Pos}
theorem tok_start {K : PySem.W.Frag} {B H : Hp} {F : Nat → List Addr} {ρ : Env} {σ : L2.St} {J : List Nat} (x : Stx own1 K B F ρ σ H) (hJ : ∀ j ∈ J, j ∉ own1 ∧ ∃ d, ρ[j]? = some (some d) ∧ immD d = false) : Stx own1 K B F (tokE (refA σ) J ρ) σ H := by
  refine ⟨by unfold tokE; rw [setsE_length]; exact x.len, x.sub, x.cl, x.tabs, fun k d q => ?_, x.out, x.dis⟩
  by_cases hk : k ∈ J
  · obtain ⟨n, d1, g1, g2⟩ := hJ k hk
    have hl : k < ρ.length := by
      obtain ⟨h, _⟩ := List.getElem?_eq_some_iff.mp g1
      exact h
    unfold tokE at q
    rw [setsE_in hk hl] at q
    have q : D.exc "" (refA σ k) = d := by simpa using q
    subst q
    obtain ⟨v, h1, _, h3⟩ := x.val k d1 g1
    refine ⟨v, h1, fun m => absurd m n, fun _ => ?_⟩
    obtain ⟨a, ea⟩ := rd_soft (h3 n) g2
    have : v = .ref (refA σ k) := by
      unfold refA
      rw [h1, ea]
    rw [this]
    exact .exc _ _
  · unfold tokE at q
    rw [setsE_out hk] at q
    exact x.val k d q
theorem vs_forF (hp : PassesOwn (model X.prog X.w) X.A X.env X.xe) (hc : X.calm = true) (hi : VI X W own1 tg iter fi) (hg : VG' X own1 slots tg tf) (hb : VSs X W own1 own1 { l := own1, P := ol.P } body b)
    (hI : ∀ i ∈ I, i ∈ own := by decide) (hM : ∀ j ∈ M, j ∉ own := by decide) (h1 : own1 = own.filter (fun i => decide (i ∉ I)) := by rfl)
    (hs : ∀ x, foldedSetIterable iter X.env x = pure x := by intro _; rfl) (we : ∀ i ∈ ol.e, i ∈ own := by first | decide | (dsimp only; decide)) (hpn : ∀ i ∈ slots, ol.P i = none := by first | exact (fun _ _ => rfl) | (intro i hi; simp only [List.mem_cons, List.not_mem_nil, or_false] at hi; (repeat' (rcases hi with rfl | hi)) <;> first | rfl | (subst hi; rfl))) : VS X W own own ol (.For tg iter body [] pos) (forF own1 I M fi tf b) := by
  obtain ⟨g, pg, tk⟩ := hg
  have h1' : ∀ i, i ∈ own1 ↔ i ∈ own ∧ i ∉ I := fun i => by rw [h1, List.mem_filter]; simp
  refine ⟨psW (ps_for hp hc hi.pi pg hb.ps hs) fun D σ H ⟨B, ρ, x, pn, q⟩ => ?_⟩
  have q0 := SEnd.out x pn we q
  obtain ⟨S, F, bS, st⟩ := x
  have stw := st.weakX (own' := own1) fun i m => ((h1' i).mp m).1
  have hext : ∀ i ∈ I, ∀ a ∈ F i, a ∈ (own.filter (fun i => decide (i ∉ own1))).flatMap F := fun i hi a ha => List.mem_flatMap.mpr ⟨i, List.mem_filter.mpr ⟨hI i hi, by simpa using fun z => ((h1' i).mp z).2 hi⟩, ha⟩
  have eF : ∀ i ∈ I, ∀ a ∈ F i, ∀ o, H a = some o → NTb o → ext S H ((own.filter (fun i => decide (i ∉ own1))).flatMap F) a = some o := fun i hi a ha o e n => ext_at st.sub e (hext i hi a ha) n
  have eT : ∀ b o, Stt o → NTb o → H b = some o → ext S H ((own.filter (fun i => decide (i ∉ own1))).flatMap F) b = some o := fun b o t n q => ext_stt st.sub q t n
  have eS : Same S (ext S H ((own.filter (fun i => decide (i ∉ own1))).flatMap F)) := ext_s _
  generalize ext S H ((own.filter (fun i => decide (i ∉ own1))).flatMap F) = S' at stw eF eT eS
  refine ⟨ρ, S', F, stw, q0.mono fun ds _ q J H1 A s1 n1 it => ?_⟩
  have st1 := stw.grow s1 n1
  have sB : Same S' (ext S' H1 A) := ext_s A
  generalize ext S' H1 A = B1 at it st1 sB
  unfold lendF at q
  split at q
  rotate_left
  · exact q.elim
  rename_i hsf
  split at q
  rotate_left
  · exact q.elim
  rename_i hx
  have hr := Classical.choose_spec hx
  generalize Classical.choose hx = r at q hr
  have nJ : ∀ j ∈ softJ (I ++ M) ρ, j ∉ own1 ∧ ∃ d, ρ[j]? = some (some d) ∧ immD d = false := fun j hj => by
    obtain ⟨m, z⟩ := softJ_get hj
    refine ⟨fun w => ?_, z⟩
    rcases List.mem_append.mp m with m | m
    · exact ((h1' j).mp w).2 m
    · exact hM j m ((h1' j).mp w).1
  have stt := tok_start st1 nJ
  have qq : SEnd X.K X.mg W own1 { l := own1, P := ol.P } B1 D (forL tf b ds (tokE (refA σ) (softJ (I ++ M) ρ) ρ)) := by
    rw [hr]
    cases r with
    | nx ρ' =>
      intro σ' H' z pz
      obtain ⟨S2, F2, b2, x2⟩ := z
      exact q σ' H' ((lend_back st hI hM h1' hsf (eS.trans sB) (fun i hi a ha o e n => sB.mv (eF i hi a ha o e n) n) (fun b o t n h => sB.mv (eT b o t n h) n) b2 x2).down bS) pz
    | rt d =>
      have q : ∀ v H A, Same B H → Fu X.K H v d A → (∀ a ∈ A, B a = none) → D.rt v H := q
      intro v H' A' s f n
      have := (bS.trans (eS.trans sB))
      exact q v H' A' (this.trans s) f fun a m => this.free (n a m)
    | st => exact q
    | bk ρ => exact q.elim
    | ct ρ => exact q.elim
    | ex c ρ => exact q.elim
    | rb d ρ => exact q.elim
  refine ⟨fun i m σ H => m = ds.length - i ∧ i ≤ ds.length ∧ ∃ ρ, Sta own1 B1 X.K ρ σ H ∧ Pin ol.P σ ∧ SEnd X.K X.mg W own1 { l := own1, P := ol.P } B1 D (forL tf b (ds.drop i) ρ), ⟨ds.length, by simp, Nat.zero_le _, _, ⟨B1, F, Same.refl _, stt⟩, pn, qq⟩, ?_⟩
  rintro i m σ2 H2 ⟨rfl, hi, ρ2, ⟨S2, F2, b2, x2⟩, pn2, q2⟩
  obtain ⟨go, stop⟩ := it S2 H2 i b2 x2.sub
  by_cases hlt : i < ds.length
  · obtain ⟨g1, g2⟩ := go ds[i] (List.getElem?_eq_getElem hlt)
    refine .inr ⟨g1, fun σ' H' => ∃ ρ', Sta own1 B1 X.K ρ' σ' H' ∧ Pin ol.P σ' ∧ SEnd X.K X.mg W own1 { l := own1, P := ol.P } B1 D (forL tf b (ds.drop (i + 1)) ρ'), fun σ' H' ⟨ρ', y, z⟩ => ⟨ds.length - (i + 1), by omega, rfl, hlt, ρ', y, z⟩, fun v H3 y => ?_⟩
    obtain ⟨s3, r3⟩ := g2 v H3 y
    rw [List.drop_eq_getElem_cons hlt] at q2
    unfold forL at q2
    cases e : tf ds[i] ρ2 with
    | none => rw [e] at q2; exact q2.elim
    | some ρ3 =>
      rw [e] at q2
      simp only at q2
      refine tk _ _ ρ2 σ2 H3 v _ ρ3 (x2.grow s3 (A := []) (fun _ z => nomatch z)) r3 e _ fun σ4 x4 k4 _ => ?_
      refine ⟨B1, ρ3, ⟨_, _, b2.trans (ext_s []), x4⟩, pn2.keep fun j hj => k4 j fun m => hj (hpn j m), ?_⟩
      cases eb : b ρ3 with
      | nx ρ5 => rw [eb] at q2; exact fun σ' H' z pz => ⟨ρ5, z, pz, q2⟩
      | ct ρ5 => rw [eb] at q2; exact fun σ' H' z pz => ⟨ρ5, z, pz, q2⟩
      | bk ρ5 => rw [eb] at q2; exact q2
      | rb d ρ5 => rw [eb] at q2; exact q2
      | rt d => rw [eb] at q2; exact q2
      | st => rw [eb] at q2; exact q2
      | ex c ρ5 => rw [eb] at q2; exact q2
  · have e : i = ds.length := by omega
    subst e
    rw [List.drop_length] at q2
    exact .inl ⟨stop (Nat.le_refl _), q2 σ2 H2 ⟨S2, F2, b2, x2⟩ pn2⟩
end
end Vs

namespace Vs
open PySem PySem.Spec PyProof.Rows L2

/-! ### list(range(..)), reversed(range(..)) -/
def rgC (a c : Int) (n : Nat) : List V := (List.range n).map fun (i : Nat) => V.int (a + (i : Int) * c)
theorem rgC_length (a c : Int) (n : Nat) : (rgC a c n).length = n := by unfold rgC; rw [List.length_map, List.length_range]
theorem vals_rgC {a c : Int} {n : Nat} {acc : Array Value} (h : ItemsOf (fun i v => ∃ t, v = .int (a + i * c) t) acc n) : Vals (rgC a c n) acc.toList := by
  have e : acc.toList.length = n := by rw [Array.length_toList]; exact h.1
  unfold rgC
  rw [← e]
  refine vals_of_get acc.toList _ fun j u hj => ?_
  obtain ⟨t, rfl⟩ := h.2 j u (by rw [← hj, Array.getElem?_toList])
  exact ⟨t, rfl⟩
theorem rds_rgC {K : PySem.W.Frag} {H : Hp} (a c : Int) (n : Nat) : Rds K H (rgC a c n) (rngC a c n) := by
  unfold rgC rngC
  generalize List.range n = l
  induction l with
  | nil => exact .nil
  | cons i l ih => exact .cons (.int _) ih
theorem rgV_rgC (i j : Int) : rgV i j = rgC i 1 (j - i).toNat := by
  unfold rgV rgC
  exact List.map_congr_left fun x _ => by rw [Int.mul_one]
theorem imm_rngC (a c : Int) (n : Nat) : immDs (rngC a c n) = true := by
  unfold rngC
  generalize List.range n = l
  induction l with
  | nil => rfl
  | cons i l ih =>
    rw [List.map_cons, immDs, ih]
    rfl
/-- list(range(i, j, c)) -/
def lrg3 : List D → R D
  | [.int i, .int j, .int c] => if okRange i j c ∧ (Builtin.Range.rangeSize i j c).toNat ≤ 16777216 then .ok (.lst (rngC i c (Builtin.Range.rangeSize i j c).toNat)) else .st
  | _ => .st
def lrg2 : D → D → R D
  | .int i, .int j => if bnd i ∧ bnd j ∧ (j - i).toNat ≤ 16777216 then .ok (.lst (rngC i 1 (j - i).toNat)) else .st
  | _, _ => .st
def lrgE (g : List D → R D) (fs : Env → R (List D)) (ρ : Env) : R D := (fs ρ).bind g
section
variable {X : Cx} {W : WX} {a b c tg : Expr} {fs : Env → R (List D)} {p p2 pos pos2 : Pos}
def tLrg3 (t : TA) : TE := fun σ H Q => t σ H fun vs H1 => ∃ i j c, vs = [.int i, .int j, .int c] ∧ okRange i j c ∧ (Builtin.Range.rangeSize i j c).toNat ≤ 16777216 ∧ ∀ q, H1 q = none → Q (.ref q) (upd H1 q (.lst (rgC i c (Builtin.Range.rangeSize i j c).toNat)))
theorem pe_lrg3 {t : TA} (hc : X.calm = true) (hl : Gl X "list") (hlm : X.mg "list" = none) (hg : Gl X "range") (hm : X.mg "range" = none) (ha : PA X [a, b, c] t)
    (hs : starEach [a, b, c] X.env = (false, eval a X.env) :: starEach [b, c] X.env := by rfl) (hpl : (backTo pos (starEach [b, c] X.env)).any (·.1) = false := by rfl)
    (na : starEach [.Call (.Name "range" p) [a, b, c] [] pos] X.env = (false, eval (.Call (.Name "range" p) [a, b, c] [] pos) X.env) :: starEach [] X.env := by rfl) :
    PE X (.Call (.Name "list" p2) [.Call (.Name "range" p) [a, b, c] [] pos] [] pos2) (tLrg3 t) := by
  refine ⟨fun pins s σ H Q I h => ?_⟩
  refine Call_ (ld_blt I hl hlm boot_list (PyProof.Rows.callWith_type1 (args_cons ?_ na) na))
  refine thn (Q := fun x s' => ∃ r i j k t u v H', x = .ref r ∧ IsRange s'.heap r i j k t u v ∧ Inv X pins σ H' s' ∧ okRange i j k ∧ (Builtin.Range.rangeSize i j k).toNat ≤ 16777216 ∧ ∀ q, H' q = none → Q (.ref q) (upd H' q (.lst (rgC i k (Builtin.Range.rangeSize i j k).toNat)))) ?_ fun x s1 ⟨r, i, j, k, t, u, v, H1, ex, hr, I1, ok, le, q⟩ => args_nil ?_
  · refine Call_ (ld_blt I hg hm boot_range (PyProof.Rows.callWith_type1 (thn (ha.run pos pins s σ H _ I h) fun us s1 ⟨vs, H1, I1, r1, q1⟩ => ?_) hs hpl))
    obtain ⟨i, j, k, e, ok, le, q⟩ := q1
    subst e
    cases r1 with
    | cons r rr =>
      cases rr with
      | cons r' rr =>
        cases rr with
        | cons r'' rr =>
          cases rr
          obtain ⟨t, rfl⟩ := r
          obtain ⟨t', rfl⟩ := r'
          obtain ⟨t'', rfl⟩ := r''
          refine call_range_3 ok.1 ?_ (.inl (PyProof.noPylong_small ok.2.1))
          exact ⟨_, i, j, k, t, t', t'', H1, rfl, IsRange.new .., I1.kept (t' := s1.toks) fun b o e => Heap.get?_push_of_some _ e, ok, le, q⟩
  · subst ex
    refine call_list_range (n := (Builtin.Range.rangeSize i j k).toNat) (I1.ok.hd hc) hr ok.2.2 (rangeSize_toNat i j k) (by omega) fun h' tk acc c' hk e' hi => ?_
    refine ⟨.ref s1.heap.objs.size, upd H1 s1.heap.objs.size (.lst (rgC i k (Builtin.Range.rangeSize i j k).toNat)), I1.laid hk (Nat.le_refl _) (show ObjOk X.prog X.w _ _ _ (.lst (rgC i k (Builtin.Range.rangeSize i j k).toNat)) from ⟨?_, acc.toList, c', vals_rgC hi, ?_⟩), rfl, q _ (I1.hok.fresh (Nat.le_refl _))⟩
    · rw [rgC_length, sizeLine_eq]; omega
    · rw [Array.toArray_toList]; exact e'
theorem vg_lrg3 (hc : X.calm = true) (hl : Gl X "list") (hlm : X.mg "list" = none) (hg : Gl X "range") (hm : X.mg "range" = none) (ha : VA X W [a, b, c] fs)
    (hs : starEach [a, b, c] X.env = (false, eval a X.env) :: starEach [b, c] X.env := by rfl) (hpl : (backTo pos (starEach [b, c] X.env)).any (·.1) = false := by rfl)
    (na : starEach [.Call (.Name "range" p) [a, b, c] [] pos] X.env = (false, eval (.Call (.Name "range" p) [a, b, c] [] pos) X.env) :: starEach [] X.env := by rfl) :
    VG X W (.Call (.Name "list" p2) [.Call (.Name "range" p) [a, b, c] [] pos] [] pos2) (lrgE lrg3 fs) :=
  ⟨peW (pe_lrg3 hc hl hlm hg hm ha.pa hs hpl na) fun σ H Q ⟨ρ, re, o⟩ => ⟨ρ, re, (Out.bind o).mono fun ds _ q vs H1 s1 r1 => by
    unfold lrg3 at q
    split at q
    · obtain ⟨v, w, u, rfl, h1, h2, h3⟩ := rds3 r1
      split at q
      · rename_i ok
        cases h1
        cases h2
        cases h3
        exact ⟨_, _, _, rfl, ok.1, ok.2, fun p hp => q _ _ [p] (s1.trans (new_same hp)) (fu_new_lst hp (rds_rgC _ _ _) (imm_rngC _ _ _)) fun a ha => by rw [List.mem_singleton.mp ha]; exact s1.free hp⟩
      · exact q.elim
    · exact q.elim⟩⟩
theorem vg_lrg2 (hc : X.calm = true) (hl : Gl X "list") (hlm : X.mg "list" = none) (hg : Gl X "range") (hm : X.mg "range" = none) {f g : Env → R D} (ha : VE X W a f) (hb : VE X W b g)
    (na : starEach [a, b] X.env = (false, eval a X.env) :: starEach [b] X.env := by rfl) (nb : starEach [b] X.env = (false, eval b X.env) :: starEach [] X.env := by rfl) (hpl : (backTo pos (starEach [b] X.env)).any (·.1) = false := by rfl)
    (nr : starEach [.Call (.Name "range" p) [a, b] [] pos] X.env = (false, eval (.Call (.Name "range" p) [a, b] [] pos) X.env) :: starEach [] X.env := by rfl) :
    VG X W (.Call (.Name "list" p2) [.Call (.Name "range" p) [a, b] [] pos] [] pos2) (op2 lrg2 f g) :=
  ⟨peW (pe_listRg hc hl hlm (prg_2 hg hm ha.pe hb.pe na nb hpl) nr) fun σ H Q ⟨ρ, re, o⟩ => ⟨ρ, re, (Out.bind o).mono fun d _ q v H1 s1 r1 => ⟨ρ, re.mono s1, ((Out.bind q).up s1).mono fun e _ q w H2 s2 r2 => by
    unfold lrg2 at q
    split at q
    · skip
      split at q
      · rename_i ok
        cases r1
        cases r2
        refine ⟨_, _, rfl, rfl, ⟨by have := ok.1; unfold bnd at this; omega, by have := ok.1; unfold bnd at this; omega, by have := ok.2.1; unfold bnd at this; omega, by have := ok.2.1; unfold bnd at this; omega, by have := ok.2.2; omega⟩, fun p hp => ?_⟩
        rw [rgV_rgC]
        exact q _ _ [p] ((s1.trans s2).trans (new_same hp)) (fu_new_lst hp (rds_rgC _ _ _) (imm_rngC _ _ _)) fun a ha => by rw [List.mem_singleton.mp ha]; exact (s1.trans s2).free hp
      · exact q.elim
    · exact q.elim⟩⟩⟩
/-- reversed(range(n)) -/
def revRg1 : D → R (List D)
  | .int j => if bnd j then .ok (rngC (0 + (((j - 0).toNat : Nat) : Int) - 1) (-1) (j - 0).toNat) else .st
  | _ => .st
theorem vi_revRg1 {own : List Nat} {f : Env → R D} (hr : Gl X "reversed") (hrm : X.mg "reversed" = none) (hg : Gl X "range") (hm : X.mg "range" = none) (ha : VE X W a f)
    (na : starEach [a] X.env = (false, eval a X.env) :: starEach [] X.env := by rfl)
    (nr : starEach [.Call (.Name "range" p) [a] [] pos] X.env = (false, eval (.Call (.Name "range" p) [a] [] pos) X.env) :: starEach [] X.env := by rfl) :
    VI X W own tg (.Call (.Name "reversed" p2) [.Call (.Name "range" p) [a] [] pos] [] pos2) (itV revRg1 f) :=
  ⟨piW (pi_revR hr hrm (prg_1 hg hm ha.pe na) nr) fun σ H Q ⟨ρ, S, F, st, o⟩ => ⟨ρ, st.env, (Out.bind o).mono fun d _ q v H' s r => by
    unfold revRg1 at q
    split at q
    · split at q
      · rename_i ok
        cases r
        refine ⟨_, rfl, by omega, by omega, by unfold bnd at ok; omega, by unfold bnd at ok; omega, q _ H' [] s (fun _ z => nomatch z) (it_rngC _ _ _)⟩
      · exact q.elim
    · exact q.elim⟩⟩
end
end Vs

namespace Vs
open PySem PySem.Spec PyProof.Rows L2

/-! ### slices as sources -/
section
variable {X : Cx} {W : WX} {own : List Nat} {a stp : Expr} {f : Env → R D} {lo hi : Option Expr} {l u o : Env → R (Option Int)} {p2 pos : Pos}
theorem vp_slk (ha : VP X W own a f) (hl : VO X W lo l) (hu : VO X W hi u) (hs : VO X W (some stp) o) : VP X W own (.Subscript a (.Slice lo hi (some stp) p2) pos) (slkE f l u o) :=
  ⟨peW (pe_sliceK ha.pe hl.po hu.po hs.po) fun σ H Q ⟨ρ, S, F, st, z⟩ => ⟨ρ, S, F, st, (Out.bind z).mono fun d _ q v H1 A s1 n1 r1 => ⟨ρ, st.env.mono s1, ((Out.bind q).up s1).mono fun l _ q H2 s2 => ⟨ρ, st.env.mono (s1.trans s2), ((Out.bind q).up (s1.trans s2)).mono fun u _ q H3 s3 => ⟨ρ, st.env.mono (s1.trans (s2.trans s3)), ((Out.bind q).up (s1.trans (s2.trans s3))).mono fun o _ q H4 s4 => by
    rcases slk_cases d l u o with z | ⟨xs, k, rfl, rfl, hk, z⟩
    · rw [z] at q
      exact q.elim
    · rw [z] at q
      have sX := s2.trans (s3.trans s4)
      have m := ext_mono (A := A) sX (st.sub.trans s1)
      cases r1 with
      | lst h1 r1 =>
        have h1 := m.seq h1
        have r1 := r1.mono m
        have sS : Same S H4 := st.sub.trans (s1.trans sX)
        refine ⟨_, _, k, rfl, rfl, (ext_h sS A).seq h1, hk, fun p hp => ?_⟩
        refine q _ _ (p :: A) ((s1.trans sX).trans (new_same hp)) (fun a m => (List.mem_cons.mp m).elim (fun z => by rw [z]; exact (s1.trans sX).free hp) fun z => n1 a z) (.lst (SqL.of (ext_at (sS.trans (new_same hp)) upd_same List.mem_cons_self)) ?_)
        rw [← r1.length]
        exact rds_pick (r1.mono ((ext_mono (A := A) (new_same hp) sS).trans (ext_sup fun a m => List.mem_cons_of_mem _ m))) _⟩⟩⟩⟩⟩
end
end Vs

namespace Vs
open PySem PySem.Spec PyProof.Rows L2

/-! ### a slot's list handed over -/
section
variable {K : PySem.W.Frag} {H H' S S0 B : Hp} {own own' : List Nat} {F : Nat → List Addr} {ρ : Env} {σ : L2.St}
/-- a slot is given up -/
theorem Stx.drop (h : Stx own K S F ρ σ H) {i : Nat} (w : ∀ j, j ∈ own' ↔ j ∈ own ∧ j ≠ i) : Stx own' K S F (ρ.set i none) σ H := by
  refine ⟨by rw [List.length_set]; exact h.len, h.sub, h.cl, h.tabs, fun j d q => ?_, fun j m => h.out j ((w j).mp m).1, fun j m k n => h.dis j ((w j).mp m).1 k ((w k).mp n).1⟩
  rcases get_set q with ⟨_, e, _⟩ | ⟨ne, q⟩
  · cases e
  · obtain ⟨v, h1, h2, h3⟩ := h.val j d q
    exact ⟨v, h1, fun m => h2 ((w j).mp m).1, fun m => h3 fun z => m ((w j).mpr ⟨z, ne⟩)⟩
/-- the heap behind a call that left S0 -/
theorem Stx.kept (h : Stx own K S F ρ σ H) (s : Same S S0) (hF : ∀ i ∈ own, ∀ a ∈ F i, ∀ o, H a = some o → NTb o → S0 a = some o) (ht : ∀ b o, Stt o → NTb o → H b = some o → S0 b = some o) (s2 : Same S0 H') : Stx own K (ext S H' []) F ρ σ H' := by
  have sS : Same S H' := s.trans s2
  refine ⟨h.len, ext_h sS [], fun a o e t n => ext_stt sS e t n, h.tabs.up (ext_s _), fun i d q => ?_, fun i m a ha => ?_, h.dis⟩
  · obtain ⟨v, h1, h2, h3⟩ := h.val i d q
    refine ⟨v, h1, fun m => (h2 m).at (fun a ha => ?_) fun b o st n z => s2.mv (ht b o st n z) n, fun m => (h3 m).mono (ext_s [])⟩
    obtain ⟨_, o, e, nn⟩ := h.out i m a ha
    rw [e]
    exact s2.mv (hF i m a ha o e (nst nn)) (nst nn)
  · obtain ⟨h1, o, h2, h3⟩ := h.out i m a ha
    have e := s2.mv (hF i m a ha o h2 (nst h3)) (nst h3)
    refine ⟨ext_none h1 (fun z => nomatch z) (fun o' e' => ?_), o, e, h3⟩
    rw [e] at e'; cases e'; exact h3
end
end Vs
namespace Vs
open PySem PySem.Spec PyProof.Rows L2
/-- an expression that takes slots' lists over: own' own behind it; g: the slots behind it -/
def tM (K : PySem.W.Frag) (mg : Str → Option Value) (W : WX) (own own' : List Nat) (f : Env → R D) (g : Env → Env) : TE := fun σ H Q => ∃ B ρ, Sta own B K ρ σ H ∧ match f ρ with
  | .ok d => ∀ v H', StaV own' B K (g ρ) σ H' v d → Q v H'
  | .ex c => ∃ C, mg c = some (.ref C) ∧ ∀ H', Sta [] B K (g ρ) σ H' → W (.ref C) none σ H'
  | .st => False
structure VM (X : Cx) (W : WX) (own own' : List Nat) (e : Expr) (f : Env → R D) (g : Env → Env) : Prop where
  pe : PE X e (tM X.K X.mg W own own' f g)

def dropS (i : Nat) (ρ : Env) : Env := ρ.set i none
/-- f(x, e, ..) where x's list is given to f -/
def callM (m : List D → R D) (i : Nat) (fs : Env → R (List D)) (ρ : Env) : R D := (varE i ρ).bind fun d => (fs ρ).bind fun ds => m (d :: ds)
theorem vm_callG {X : Cx} {W : WX} {own own' : List Nat} {x y : Str} {ps : List Str} {k k' i n : Nat} {m : List D → R D} {p p1 pos : Pos} {es : List Expr} {fs : Env → R (List D)} (C : CalG X.prog X.w X.K X.mg X.base x ps k m) (hr : Room k' X.A) (tk : Takes X W) (hg : Gl X x)
    (pv : PE X (.Name y p1) (tVar i)) (ha : VB X W es fs) (hl : LenA fs n) (hn : n + 1 = ps.length) (hi : i ∈ own) (w : ∀ j, j ∈ own' ↔ j ∈ own ∧ j ≠ i) (hk : k ≤ k' := by decide) (hdb : (x == ("__debug__" : Str)) = false := by decide)
    (he : starEach (.Name y p1 :: es) X.env = (false, eval (.Name y p1) X.env) :: starEach es X.env := by rfl) (hpl : (backTo pos (starEach es X.env)).any (·.1) = false := by rfl) :
    VM X W own own' (.Call (.Name x p) (.Name y p1 :: es) [] pos) (callM m i fs) (dropS i) := by
  obtain ⟨f, fd, h1, h2, h3, h4⟩ := C
  refine ⟨peW (pe_callS h4 (hr.mono hk) hg h1 h2 h3 (fun σ => passAt tk σ) (pa_cons pv ha.pa he) hdb he hpl) fun σ H Q ⟨B, ρ, ⟨S, F, bS, st⟩, q⟩ => ?_⟩
  unfold callM at q
  cases hv : varE i ρ with
  | st => rw [hv] at q; exact q.elim
  | ex c =>
    unfold varE at hv
    split at hv <;> cases hv
  | ok d0 =>
    rw [hv] at q
    simp only [R.bind_ok] at q
    have e : ρ[i]? = some (some d0) := by
      unfold varE at hv
      split at hv
      · rename_i e; cases hv; exact e
      · cases hv
    obtain ⟨v0, g1, g2, _⟩ := st.val i d0 e
    have fu0 := g2 hi
    have std : Stx own' X.K S F (dropS i ρ) σ H := st.drop w
    refine ⟨v0, g1, ρ, st.env, ?_⟩
    cases hf : fs ρ with
    | st => rw [hf] at q; exact q.elim
    | ex c =>
      rw [hf] at q
      obtain ⟨C, c1, c2⟩ := q
      exact ⟨C, c1, fun H' s => c2 H' ((Sta.grow ⟨S, F, bS, std⟩ s).weak fun _ z => nomatch z)⟩
    | ok ds =>
      rw [hf] at q
      simp only [R.bind_ok] at q
      intro vs H1 A s1 f1 n1
      have hS0 : Same S (ext S H1 (own'.flatMap F)) := ext_s _
      have hF : ∀ j ∈ own', ∀ a ∈ F j, ∀ o, H a = some o → NTb o → ext S H1 (own'.flatMap F) a = some o := fun j mj a ha o e n => ext_at (st.sub.trans s1) (s1.mv e n) (List.mem_flatMap.mpr ⟨j, mj, ha⟩) n
      have hT : ∀ b o, Stt o → NTb o → H b = some o → ext S H1 (own'.flatMap F) b = some o := fun b o t n z => ext_stt (st.sub.trans s1) (s1.mv z n) t n
      have offA : ∀ a ∈ A, ext S H1 (own'.flatMap F) a = none := fun a ha => by
        obtain ⟨o, z1, z2⟩ := f1.soft a ha
        refine ext_none (st.sub.free (n1 a ha)) (fun z => ?_) fun o' e' => by rw [z1] at e'; cases e'; exact z2
        obtain ⟨j, mj, hj⟩ := List.mem_flatMap.mp z
        obtain ⟨_, o2, z3, _⟩ := st.out j ((w j).mp mj).1 a hj
        rw [n1 a ha] at z3; cases z3
      have offI : ∀ a ∈ F i, ext S H1 (own'.flatMap F) a = none := fun a ha => by
        obtain ⟨z0, o, z1, z2⟩ := st.out i hi a ha
        refine ext_none z0 (fun z => ?_) fun o' e' => by rw [s1.mv z1 (nst z2)] at e'; cases e'; exact z2
        obtain ⟨j, mj, hj⟩ := List.mem_flatMap.mp z
        exact st.dis i hi j ((w j).mp mj).1 (Ne.symm ((w j).mp mj).2) a ha hj
      refine ⟨?_, ext S H1 (own'.flatMap F), d0 :: ds, F i ++ A, ext_h (st.sub.trans s1) _, fun a o e t n => ext_stt (st.sub.trans s1) e t n, st.tabs.up (ext_s _), .cons (fu0.same s1) f1 (fun a ha hb => ?_), fun a ha => (List.mem_append.mp ha).elim (offI a) (offA a), ?_⟩
      · rw [List.length_cons, f1.length, hl ρ ds hf]
        exact hn
      · obtain ⟨_, o, z1, _⟩ := st.out i hi a ha
        rw [n1 a hb] at z1; cases z1
      · cases hz : m (d0 :: ds) with
        | st => rw [hz] at q; exact q.elim
        | ex c =>
          rw [hz] at q
          obtain ⟨C, c1, c2⟩ := q
          exact ⟨C, c1, fun H' s2 => c2 H' (Sta.weak (own := own') ⟨_, F, bS.trans (ext_s []), std.kept hS0 hF hT s2⟩ fun _ z => nomatch z)⟩
        | ok d =>
          rw [hz] at q
          intro v H' A' s2 f2 n2
          refine q v H' ⟨ext S H' [], F, A', bS.trans (ext_s []), std.kept hS0 hF hT s2, f2, fun a ha => ?_, fun j mj a ha hb => ?_⟩
          · obtain ⟨o, z1, z2⟩ := f2.soft a ha
            exact ext_none (hS0.free (n2 a ha)) (fun z => nomatch z) fun o' e' => by rw [z1] at e'; cases e'; exact z2
          · obtain ⟨_, o, z1, z9⟩ := std.out j mj a hb
            have := hF j mj a hb o z1 (nst z9)
            rw [n2 a ha] at this; cases this
end Vs

namespace Vs
open PySem PySem.Spec PyProof.Rows L2

/-! ### raise X('m'), X an own class -/
structure ExR (K : PySem.W.Frag) (mg : Str → Option Value) (x : Str) : Prop where
  ex : ∃ (C : Addr) (B newId initId : String) (bm : List Value), mg x = some (.ref C) ∧ ExcBaseFacts B newId initId bm ∧ PySem.W.excIn K C bm newId = true ∧ PySem.W.keepIn K (.ref C) = true ∧ PySem.W.subIn K (.ref C) (.type "BaseException") = some true ∧ PySem.W.typeIn K (.ref C) = some (.type "type")
structure ExRK (K : PySem.W.Frag) (x : Str) : Prop where
  ex : ∃ (C : Addr) (B newId initId : String) (bm : List Value), PySem.W.nsIn K mainGlobals x = some (some (.ref C)) ∧ ExcBaseFacts B newId initId bm ∧ PySem.W.excIn K C bm newId = true ∧ PySem.W.keepIn K (.ref C) = true ∧ PySem.W.subIn K (.ref C) (.type "BaseException") = some true ∧ PySem.W.typeIn K (.ref C) = some (.type "type")
theorem exRK_mk {K : PySem.W.Frag} {x : Str} {C : Addr} {B newId initId : String} {bm : List Value} (F : ExcBaseFacts B newId initId bm) (a : PySem.W.nsIn K mainGlobals x = some (some (.ref C))) (e : PySem.W.excIn K C bm newId = true) (k : PySem.W.keepIn K (.ref C) = true) (s : PySem.W.subIn K (.ref C) (.type "BaseException") = some true) (t : PySem.W.typeIn K (.ref C) = some (.type "type")) : ExRK K x := ⟨⟨C, B, newId, initId, bm, a, F, e, k, s, t⟩⟩
theorem exR_of {K : PySem.W.Frag} {h : Heap} {mg : Str → Option Value} {x : Str} (X : K.In h) (G : h.Ns mainGlobals mg) (d : ExRK K x) : ExR K mg x := by
  obtain ⟨C, B, newId, initId, bm, a, r⟩ := d.ex
  exact ⟨⟨C, B, newId, initId, bm, PySem.W.mg_of X G a, r⟩⟩
section
variable {X : Cx} {W : WX} {own own' own1 own2 : List Nat} {ol : Ol} {pos : Pos}
theorem vs_raiseX {x m : Str} {j : Nat} {p p2 p3 : Pos} (E : ExR X.K X.mg x) (hc : X.calm = true) (tk : Takes X W) (hg : Gl X x) (hdb : (x == ("__debug__" : Str)) = false := by decide) (we : ∀ i ∈ ol.e, i ∈ own := by first | decide | (dsimp only; decide)) :
    VS X W own own' ol (.Raise (some (.Call (.Name x p) [.Constant (.str m) j p2] [] p3)) none pos) (raiseS x) := by
  obtain ⟨C, B, newId, initId, bm, a, F, e, k, s, t⟩ := E.ex
  exact vs_raise hc tk (pmk_own F e a k (raises_own s t) hg hdb) a we
end

/-! ### try: body, except h as n: suite -/
/-- by class: whether the clause takes it -/
structure ExM (K : PySem.W.Frag) (mg : Str → Option Value) (h : Str) (tb : List (Str × Bool)) : Prop where
  ex : ∃ Ch, mg h = some (.ref Ch) ∧ ∀ c b, tb.lookup c = some b → ∃ C, mg c = some (.ref C) ∧ PySem.W.exmOne K (.ref C) (.ref Ch) = some b
/-- one pair -/
def ExP (K : PySem.W.Frag) (c h : Str) (b : Bool) : Prop := ∃ C Ch, PySem.W.nsIn K mainGlobals c = some (some (.ref C)) ∧ PySem.W.nsIn K mainGlobals h = some (some (.ref Ch)) ∧ PySem.W.subIn K (.ref Ch) (.type "BaseException") = some true ∧ PySem.W.hasDictIn K Ch = true ∧ PySem.W.typeIn K (.ref Ch) = some (.type "type") ∧ PySem.W.subIn K (.ref C) (.ref Ch) = some b
theorem exP_mk {K : PySem.W.Frag} {c h : Str} {b : Bool} {C Ch : Addr} (a1 : PySem.W.nsIn K mainGlobals c = some (some (.ref C))) (a2 : PySem.W.nsIn K mainGlobals h = some (some (.ref Ch))) (a3 : PySem.W.subIn K (.ref Ch) (.type "BaseException") = some true) (a4 : PySem.W.hasDictIn K Ch = true) (a5 : PySem.W.typeIn K (.ref Ch) = some (.type "type")) (a6 : PySem.W.subIn K (.ref C) (.ref Ch) = some b) : ExP K c h b := ⟨C, Ch, a1, a2, a3, a4, a5, a6⟩
theorem exM_nil {K : PySem.W.Frag} {mg : Str → Option Value} {h : Str} (e : ∃ Ch, mg h = some (.ref Ch)) : ExM K mg h [] := ⟨let ⟨Ch, e⟩ := e; ⟨Ch, e, fun c b q => nomatch q⟩⟩
theorem exM_cons {K : PySem.W.Frag} {hp : Heap} {mg : Str → Option Value} {h c : Str} {b : Bool} {tb : List (Str × Bool)} (X : K.In hp) (G : hp.Ns mainGlobals mg) (p : ExP K c h b) (r : ExM K mg h tb) : ExM K mg h ((c, b) :: tb) := by
  obtain ⟨C, Ch, a1, a2, a3, a4, a5, a6⟩ := p
  obtain ⟨Dh, e, r⟩ := r.ex
  have e2 := PySem.W.mg_of X G a2
  rw [e] at e2
  cases e2
  refine ⟨⟨_, e, fun c' b' q => ?_⟩⟩
  rw [List.lookup_cons] at q
  split at q
  · rename_i z
    have z : c' = c := by simpa using z
    subst z
    cases q
    exact ⟨C, PySem.W.mg_of X G a1, PySem.W.exm_ref a3 a4 a5 a6⟩
  · exact r c' b' q
def wipeSr (i : Nat) : Sr → Sr
  | .nx ρ => .nx (ρ.set i none)
  | .bk ρ => .bk (ρ.set i none)
  | .ct ρ => .ct (ρ.set i none)
  | .rt d => .rt d
  | .rb _ _ => .st
  | .ex _ _ => .st
  | .st => .st
open Classical in
noncomputable def tokS (i : Nat) (s : Addr → Env → Sr) (ρ : Env) : Sr := if h : ∃ r, ∀ a, wipeSr i (s a (ρ.set i (some (.exc "" a)))) = r then Classical.choose h else .st
theorem tokS_eq {i : Nat} {s : Addr → Env → Sr} {ρ : Env} {r : Sr} (h : ∀ a, wipeSr i (s a (ρ.set i (some (.exc "" a)))) = r) : tokS i s ρ = r := by
  have hx : ∃ r, ∀ a, wipeSr i (s a (ρ.set i (some (.exc "" a)))) = r := ⟨r, h⟩
  unfold tokS
  rw [dif_pos hx, ← Classical.choose_spec hx 0]
  exact h 0
noncomputable def tryAsS (i : Nat) (tb : List (Str × Bool)) (b : Env → Sr) (s : Str → Addr → Env → Sr) (ρ : Env) : Sr := match b ρ with
  | .ex c ρ' => (match tb.lookup c with
    | some true => tokS i (s c) ρ'
    | some false => .ex c ρ'
    | none => .st)
  | r => r
section
variable {X : Cx} {W : WX} {own own' own1 own2 : List Nat} {ol : Ol} {pos : Pos} {b : Env → Sr} {s : Str → Addr → Env → Sr} {tb : List (Str × Bool)} {oe : List Nat}
theorem Stx.unset {K : PySem.W.Frag} {S H : Hp} {F : Nat → List Addr} {ρ : Env} {σ : L2.St} {own own' : List Nat} (h : Stx own K S F ρ σ H) {i : Nat} (w : ∀ j ∈ own', j ∈ own) (w2 : ∀ j ∈ own, j ∉ own' → j = i) : Stx own' K S F (ρ.set i none) (σ.set i none) H := by
  refine ⟨by rw [List.length_set, List.length_set]; exact h.len, h.sub, h.cl, h.tabs, fun j d q => ?_, fun j m => h.out j (w j m), fun j m k n => h.dis j (w j m) k (w k n)⟩
  rcases get_set q with ⟨_, e, _⟩ | ⟨ne, q⟩
  · cases e
  · obtain ⟨v, h1, h2, h3⟩ := h.val j d q
    exact ⟨v, by rw [List.getElem?_set_ne (Ne.symm ne)]; exact h1, fun m => h2 (w j m), fun m => h3 fun z => ne (w2 j z m)⟩
theorem Sta.unset {K : PySem.W.Frag} {B H : Hp} {ρ : Env} {σ : L2.St} {own own' : List Nat} (h : Sta own B K ρ σ H) (i : Nat) (w : ∀ j ∈ own', j ∈ own) : Sta own' B K (ρ.set i none) (σ.set i none) H := by
  obtain ⟨S, F, b, x⟩ := h.weak w
  exact ⟨S, F, b, x.unset (fun j m => m) fun j m n => absurd m n⟩
theorem vs_tryAs (i : Nat) {h n : Str} {body suite : List Stmt} {b₀ : Stmt} {np pos' : Pos} (E : ExM X.K X.mg h tb) (hs : X.stack = X.env :: X.outer) (hf : X.env.frame = some X.env.locals) (hN : X.N.Nodup) (hi : X.N[i]? = some n) (hln : X.env.kindOf n = some .local) (hg : Gl X h)  (tk : Takes X W)
    (hb : ∀ (W : WX) (pn : List (Addr × Obj)) (xe : Value → Shared → Prop), Takes (X.tr pn xe) W → PassesOwn (model X.prog X.w) X.A X.env xe → VSs (X.tr pn xe) W own own1 { ol with e := oe } body b)
    (hsu : ∀ (c : Str) (C : Addr), X.mg c = some (.ref C) → tb.lookup c = some true → ∀ (a : Addr) (ob : Obj) (pn : List (Addr × Obj)), Zc (.ref C) none ob → (∃ vs, ob.data = .fields vs) → VSs (X.suite a ((a, ob) :: pn)) (fun _ _ _ _ => False) oe own2 { ol with e := [] } (b₀ :: suite) (s c a))
    (w1 : ∀ i ∈ own', i ∈ own1 := by decide) (w2 : ∀ i ∈ own', i ∈ own2 := by decide) (w3 : i ∉ oe := by decide) (w4 : ∀ j ∈ ol.e, j ∈ oe := by first | decide | (dsimp only; decide)) (hpi : ol.P i = none := by rfl) (hdb : (h == ("__debug__" : Str)) = false := by decide) :
    VS X W own own' ol (.Try body [.ExceptHandler (some (.Name h np)) (some n) (b₀ :: suite) pos'] [] [] pos) (tryAsS i tb b s) := by
  obtain ⟨Ch, eh, E⟩ := E.ex
  refine ⟨psW (ps_try_as (i := i) (c := .ref Ch) (Wout := W) (tb := fun W => tS X.K X.mg W own own1 { ol with e := oe } b)
    (ts := fun a cls d => fun D σ H => d = none ∧ ∃ (c : Str) (C : Addr), X.mg c = some (.ref C) ∧ tb.lookup c = some true ∧ cls = .ref C ∧ tS X.K X.mg (fun _ _ _ _ => False) oe own2 { ol with e := [] } (s c a) D σ H) hs hf hN hi hln ⟨hg, hdb, .inl eh⟩ tk
    (fun W pn xe tk po => (hb W pn xe tk po).ps) (fun a ob cls d pn hz hf => ⟨fun pins s σ H D I ⟨hd, c, C, hc, ht, hcls, t⟩ => ?_⟩)) fun D σ H ⟨B, ρ, x, pn, q⟩ => ⟨B, ρ, x, pn, ?_⟩⟩
  · subst hd hcls
    exact (hsu c C hc ht a ob pn hz hf).ps.run pins s σ H D I t
  · unfold tryAsS at q
    cases e : b ρ with
    | st => rw [e] at q; exact q.elim
    | nx ρ' => rw [e] at q; exact fun σ H y => q σ H (y.weak w1)
    | rt d => rw [e] at q; exact q
    | rb d ρ' => rw [e] at q; exact q
    | bk ρ' => rw [e] at q; exact q
    | ct ρ' => rw [e] at q; exact q
    | ex c ρ' =>
      rw [e] at q
      simp only at q
      cases et : tb.lookup c with
      | none => rw [et] at q; exact q.elim
      | some k =>
        rw [et] at q
        cases k with
        | false =>
          obtain ⟨C, hC, q⟩ := q
          obtain ⟨C2, h2, e2⟩ := E c false et
          rw [hC] at h2
          cases h2
          exact ⟨C, hC, fun σ' H' y pz => ⟨false, e2, (fun z => nomatch z), fun _ => q σ' H' (y.weak w4) pz⟩⟩
        | true =>
          simp only at q
          by_cases hx : ∃ r, ∀ a, wipeSr i (s c a (ρ'.set i (some (.exc "" a)))) = r
          rotate_left
          · unfold tokS at q
            rw [dif_neg hx] at q
            exact q.elim
          obtain ⟨r, hr⟩ := hx
          rw [tokS_eq hr] at q
          obtain ⟨C, hC, eC⟩ := E c true et
          refine ⟨C, hC, fun σ' H' y pz => ⟨true, eC, fun _ a ha => ⟨rfl, c, C, hC, et, rfl, B, ρ'.set i (some (.exc "" a)), ?_, pz.set hpi, ?_⟩, (fun z => nomatch z)⟩⟩
          · obtain ⟨S, F, bS, y⟩ := y
            exact ⟨S, F, bS, y.lay w3 (.exc "" a)⟩
          · have hra := hr a
            cases es : s c a (ρ'.set i (some (.exc "" a))) with
            | st => rw [es] at hra; subst hra; exact q.elim
            | nx ρ2 => rw [es] at hra; subst hra; exact fun σ2 H2 y2 pz => q _ _ (y2.unset i w2) (pz.set hpi)
            | rt d => rw [es] at hra; subst hra; exact q
            | bk ρ2 => rw [es] at hra; subst hra; exact fun σ2 H2 y2 pz => q _ _ (y2.unset i fun j m => m) (pz.set hpi)
            | ct ρ2 => rw [es] at hra; subst hra; exact fun σ2 H2 y2 pz => q _ _ (y2.unset i fun j m => m) (pz.set hpi)
            | rb d ρ2 => rw [es] at hra; subst hra; exact q.elim
            | ex c2 ρ2 => rw [es] at hra; subst hra; exact q.elim
end

/-! ### isinstance(e, x), e the caught error -/
/-- of an error of the class c: whether it is an x -/
def IsP (K : PySem.W.Frag) (mg : Str → Option Value) (c x : Str) (b : Bool) : Prop := ∃ C cv, mg c = some (.ref C) ∧ ExcC K C ∧ (mg x = some cv ∨ (mg x = none ∧ bootBuiltins x = some cv)) ∧ PySem.W.kitOne K (.ref C) cv = some b
structure IsT (K : PySem.W.Frag) (mg : Str → Option Value) (tb : List (Str × List (Str × Bool))) : Prop where
  ex : ∀ c l, tb.lookup c = some l → ∀ x b, l.lookup x = some b → IsP K mg c x b
def isXR (tb : List (Str × List (Str × Bool))) (c x : Str) : R D := match tb.lookup c with
  | some l => (match l.lookup x with
    | some b => .ok (.bl b)
    | none => .st)
  | none => .st
def isE (i : Nat) (a : Addr) (r : R D) (ρ : Env) : R D := match ρ[i]? with
  | some (some (.exc _ a')) => if a' = a then r else .st
  | _ => .st
theorem isXR_ok {tb : List (Str × List (Str × Bool))} {c x : Str} {K : PySem.W.Frag} {mg : Str → Option Value} (T : IsT K mg tb) : isXR tb c x = .st ∨ ∃ b, isXR tb c x = .ok (.bl b) ∧ IsP K mg c x b := by
  unfold isXR
  split
  · rename_i l hl
    split
    · rename_i b hb
      exact .inr ⟨b, rfl, T.ex c l hl x b hb⟩
    · exact .inl rfl
  · exact .inl rfl
section
variable {X : Cx} {W : WX} {C a : Addr} {oe : Obj} {pn : List (Addr × Obj)} {tb : List (Str × List (Str × Bool))} {c n x : Str} {p p1 p2 pos : Pos} {i : Nat}
theorem vg_isE_core {v : V} {cv : Value} (T : IsT X.K X.mg tb) (hc : X.mg c = some (.ref C)) (hz : Zc (.ref C) none oe) (hf : ∃ vs, oe.data = .fields vs)
    (hg : Gl (X.suite a ((a, oe) :: pn)) "isinstance") (hm : X.mg "isinstance" = none) (pv : PE (X.suite a ((a, oe) :: pn)) (.Name n p1) (tVar i)) (hT : PE (X.suite a ((a, oe) :: pn)) (.Name x p2) (tC v)) (hv : ∀ u, RelV v u → u = cv)
    (hx : ∀ cv', (X.mg x = some cv' ∨ (X.mg x = none ∧ bootBuiltins x = some cv')) → cv' = cv)
    (he : starEach [.Name n p1, .Name x p2] (X.suite a ((a, oe) :: pn)).env = (false, eval (.Name n p1) X.env) :: starEach [.Name x p2] X.env := by rfl) (he2 : starEach [.Name x p2] (X.suite a ((a, oe) :: pn)).env = [(false, eval (.Name x p2) X.env)] := by rfl) (hpl : (backTo pos (starEach [.Name x p2] (X.suite a ((a, oe) :: pn)).env)).any (·.1) = false := by rfl) :
    VG (X.suite a ((a, oe) :: pn)) W (.Call (.Name "isinstance" p) [.Name n p1, .Name x p2] [] pos) (isE i a (isXR tb c x)) := by
  rcases isXR_ok (c := c) (x := x) T with e | ⟨b, e, C', cv', h1, h2, h3, h4⟩
  · refine ⟨⟨fun pins s σ H Q I ⟨ρ, re, q⟩ => ?_⟩⟩
    unfold isE at q
    rw [e] at q
    exfalso
    split at q
    · split at q
      · exact q
      · exact q
    · exact q
  · rw [hc] at h1
    cases h1
    have ecv := hx cv' h3
    subst ecv
    refine ⟨peW (pe_callB (call_isE h2 hz hf) hg hm boot_isinstance (pa_cons pv (pa_cons hT pa_nil he2) he) (by decide) (by decide) he hpl) fun σ H Q ⟨ρ, re, q⟩ => ?_⟩
    unfold isE at q
    rw [e] at q
    split at q
    · rename_i e0 a' ea
      split at q
      · rename_i z
        subst z
        obtain ⟨w, g1, g2⟩ := re.val i _ ea
        cases g2
        exact ⟨_, g1, v, cv', b, rfl, hv, h4, q _ H [] (Same.refl H) (.bl _) (fun _ h => nomatch h)⟩
      · exact q.elim
    · exact q.elim
/-- x an own class -/
theorem vg_isE {Cx' : Addr} (T : IsT X.K X.mg tb) (hc : X.mg c = some (.ref C)) (hz : Zc (.ref C) none oe) (hf : ∃ vs, oe.data = .fields vs)
    (hg : Gl (X.suite a ((a, oe) :: pn)) "isinstance") (hm : X.mg "isinstance" = none) (pv : PE (X.suite a ((a, oe) :: pn)) (.Name n p1) (tVar i)) (hgx : Gl (X.suite a ((a, oe) :: pn)) x) (hx : ∃ C, X.mg x = some (.ref C)) (hdb : (x == ("__debug__" : Str)) = false := by decide)
    (he : starEach [.Name n p1, .Name x p2] (X.suite a ((a, oe) :: pn)).env = (false, eval (.Name n p1) X.env) :: starEach [.Name x p2] X.env := by rfl) (he2 : starEach [.Name x p2] (X.suite a ((a, oe) :: pn)).env = [(false, eval (.Name x p2) X.env)] := by rfl) (hpl : (backTo pos (starEach [.Name x p2] (X.suite a ((a, oe) :: pn)).env)).any (·.1) = false := by rfl) :
    VG (X.suite a ((a, oe) :: pn)) W (.Call (.Name "isinstance" p) [.Name n p1, .Name x p2] [] pos) (isE i a (isXR tb c x)) := by
  obtain ⟨Cy, hy⟩ := hx
  exact vg_isE_core (v := .ref Cy) (cv := .ref Cy) T hc hz hf hg hm pv (pe_glob hgx hy rfl hdb) (fun u r => r) (fun cv' q => by rcases q with q | ⟨q, _⟩ <;> rw [hy] at q <;> cases q; rfl) he he2 hpl
/-- x a built-in class -/
theorem vg_isEB {t : String} (T : IsT X.K X.mg tb) (hc : X.mg c = some (.ref C)) (hz : Zc (.ref C) none oe) (hf : ∃ vs, oe.data = .fields vs)
    (hg : Gl (X.suite a ((a, oe) :: pn)) "isinstance") (hm : X.mg "isinstance" = none) (pv : PE (X.suite a ((a, oe) :: pn)) (.Name n p1) (tVar i)) (hgx : Gl (X.suite a ((a, oe) :: pn)) x) (hx : X.mg x = none) (hb : bootBuiltins x = some (.type t)) (hn : x ≠ "__name__" := by decide) (hdb : (x == ("__debug__" : Str)) = false := by decide)
    (he : starEach [.Name n p1, .Name x p2] (X.suite a ((a, oe) :: pn)).env = (false, eval (.Name n p1) X.env) :: starEach [.Name x p2] X.env := by rfl) (he2 : starEach [.Name x p2] (X.suite a ((a, oe) :: pn)).env = [(false, eval (.Name x p2) X.env)] := by rfl) (hpl : (backTo pos (starEach [.Name x p2] (X.suite a ((a, oe) :: pn)).env)).any (·.1) = false := by rfl) :
    VG (X.suite a ((a, oe) :: pn)) W (.Call (.Name "isinstance" p) [.Name n p1, .Name x p2] [] pos) (isE i a (isXR tb c x)) :=
  vg_isE_core (v := .ty t) (cv := .type t) T hc hz hf hg hm pv (pe_bltn hgx hx hb rfl hn hdb) (fun u r => r) (fun cv' q => q.elim (fun q => by rw [hx] at q; cases q) fun ⟨_, q⟩ => by rw [hb] at q; cases q; rfl) he he2 hpl
end
/-- the facts of a class of errors -/
theorem isT_nil {K : PySem.W.Frag} {mg : Str → Option Value} : IsT K mg [] := ⟨fun c l q => nomatch q⟩
def ExcK (K : PySem.W.Frag) (c : Str) : Prop := ∃ C, PySem.W.nsIn K mainGlobals c = some (some (.ref C)) ∧ ExcC K C
theorem excK_mk {K : PySem.W.Frag} {c : Str} {C : Addr} (a : PySem.W.nsIn K mainGlobals c = some (some (.ref C))) (h1 : PySem.W.findIn K (.ref C) "__getattribute__" = some (some (.builtin "BaseException.__getattribute__")))
    (h2 : PySem.W.findIn K (.ref C) "__getattr__" = some none) (h3 : PySem.W.subIn K (.ref C) (.type "BaseException") = some true) (h4 : PySem.W.hasDictIn K C = true) (h5 : PySem.W.findIn K (.ref C) "__class__" = some (some (.builtin "object.__class__")))
    (h6 : PySem.W.specialIn K (.builtin "object.__class__") "__get__" = some (some (.builtin "getset_descriptor.__get__"))) (h7 : PySem.W.takesIn K (.builtin "object.__class__") = some true) (h8 : PySem.W.mroIn K C (.type "object") = some true) : ExcK K c := ⟨C, a, h1, h2, h3, h4, h5, h6, h7, h8⟩
/-- own class, built-in class -/
def KitO (K : PySem.W.Frag) (c x : Str) (b : Bool) : Prop := ∃ C D, PySem.W.nsIn K mainGlobals c = some (some (.ref C)) ∧ PySem.W.nsIn K mainGlobals x = some (some (.ref D)) ∧ PySem.W.kitOne K (.ref C) (.ref D) = some b
theorem kitO_mk {K : PySem.W.Frag} {c x : Str} {b : Bool} {C D : Addr} (a : PySem.W.nsIn K mainGlobals c = some (some (.ref C))) (d : PySem.W.nsIn K mainGlobals x = some (some (.ref D))) (e1 : PySem.W.isClsIn K D = true) (e2 : PySem.W.typeIn K (.ref D) = some (.type "type")) (e3 : PySem.W.subIn K (.ref C) (.ref D) = some b) (ne : b = true ∨ C ≠ D) : KitO K c x b := by
  refine ⟨C, D, a, d, ?_⟩
  unfold PySem.W.kitOne
  by_cases z : (Value.ref C == Value.ref D) = true
  · rw [if_pos z]
    rcases ne with e | ne
    · rw [e]
    · exact absurd (Value.ref.inj (beq_iff_eq.mp z)) ne
  · rw [if_neg z]
    show (if ((PySem.W.clsIn K D).isSome && PySem.W.typeIn K (.ref D) == some (.type "type")) = true then PySem.W.subIn K (.ref C) (.ref D) else none) = some b
    rw [if_pos (by rw [e2]; have e1' : (PySem.W.clsIn K D).isSome = true := e1; rw [e1']; rfl)]
    exact e3
def KitB (K : PySem.W.Frag) (c x : Str) (b : Bool) : Prop := ∃ C t, PySem.W.nsIn K mainGlobals c = some (some (.ref C)) ∧ PySem.W.nsIn K mainGlobals x = some none ∧ bootBuiltins x = some (.type t) ∧ PySem.W.kitOne K (.ref C) (.type t) = some b
theorem kitB_mk {K : PySem.W.Frag} {c x : Str} {b : Bool} {C : Addr} {t : String} (a : PySem.W.nsIn K mainGlobals c = some (some (.ref C))) (d : PySem.W.nsIn K mainGlobals x = some none) (bt : bootBuiltins x = some (.type t)) (m : PySem.W.kitMeta t = true) (e : PySem.W.subIn K (.ref C) (.type t) = some b) : KitB K c x b := ⟨C, t, a, d, bt, by
  unfold PySem.W.kitOne
  rw [if_neg (by simp)]
  show (if PySem.W.kitMeta t = true then PySem.W.subIn K (.ref C) (.type t) else none) = some b
  rw [if_pos m]
  exact e⟩
section
variable {K : PySem.W.Frag} {h : Heap} {mg : Str → Option Value} {c x : Str} {b : Bool}
theorem isP_own (X : K.In h) (G : h.Ns mainGlobals mg) (e : ExcK K c) (k : KitO K c x b) : IsP K mg c x b := by
  obtain ⟨C, a, e⟩ := e
  obtain ⟨C', D, a', d, k⟩ := k
  rw [a] at a'
  cases a'
  exact ⟨C, _, PySem.W.mg_of X G a, e, .inl (PySem.W.mg_of X G d), k⟩
theorem isP_blt (X : K.In h) (G : h.Ns mainGlobals mg) (e : ExcK K c) (k : KitB K c x b) : IsP K mg c x b := by
  obtain ⟨C, a, e⟩ := e
  obtain ⟨C', t, a', d, bt, k⟩ := k
  rw [a] at a'
  cases a'
  exact ⟨C, _, PySem.W.mg_of X G a, e, .inr ⟨PySem.W.mg_none_of X G d, bt⟩, k⟩
/-- a row of the table -/
def IsRow (K : PySem.W.Frag) (mg : Str → Option Value) (c : Str) (l : List (Str × Bool)) : Prop := ∀ x b, l.lookup x = some b → IsP K mg c x b
theorem isRow_nil : IsRow K mg c [] := fun x b q => nomatch q
theorem isRow_cons {l : List (Str × Bool)} (p : IsP K mg c x b) (r : IsRow K mg c l) : IsRow K mg c ((x, b) :: l) := fun x' b' q => by
  rw [List.lookup_cons] at q
  split at q
  · rename_i z
    have z : x' = x := by simpa using z
    subst z
    cases q
    exact p
  · exact r x' b' q
theorem isT_cons {l : List (Str × Bool)} {tb : List (Str × List (Str × Bool))} (p : IsRow K mg c l) (r : IsT K mg tb) : IsT K mg ((c, l) :: tb) := ⟨fun c' l' q => by
  rw [List.lookup_cons] at q
  split at q
  · rename_i z
    have z : c' = c := by simpa using z
    subst z
    cases q
    exact p
  · exact r.ex c' l' q⟩
end

/-! ### texts: sign in text, x.index(y) -/
def inSignD : D → D → R D
  | .str x, .str z => match x.cps.toList with
    | [c] => .ok (.bl (decide (c ∈ z.cps.toList)))
    | _ => .st
  | _, _ => .st
def ninSignD : D → D → R D
  | .str x, .str z => match x.cps.toList with
    | [c] => .ok (.bl (!decide (c ∈ z.cps.toList)))
    | _ => .st
  | _, _ => .st
theorem nx_inSign : NoEx2 inSignD := fun d e c h => by unfold inSignD at h; split at h <;> first | cases h | (split at h <;> cases h)
theorem nx_ninSign : NoEx2 ninSignD := fun d e c h => by unfold ninSignD at h; split at h <;> first | cases h | (split at h <;> cases h)
section
variable {X : Cx} {W : WX} {o e : Expr} {f h : Env → R D} {apos pos : Pos}
theorem str1 {x : Str} {c : Nat} (h : x.cps.toList = [c]) : x = ⟨#[c]⟩ := by
  obtain ⟨⟨l⟩⟩ := x
  simp at h
  subst h
  rfl
theorem d_inSign : OpD X (fun x y H Q => ∃ (c : Nat) (z : Str), x = .str ⟨#[c]⟩ ∧ y = .str z ∧ Q (.bl (decide (c ∈ z.cps.toList))) H) inSignD := fun x y d e H Q z rx ry h q => by
  unfold inSignD at h
  split at h
  · split at h
    · rename_i c hc
      cases h
      cases rx
      cases ry
      exact ⟨c, _, by rw [str1 hc], rfl, q _ H [] (Same.refl H) (.bl _) (fun _ h => nomatch h)⟩
    · cases h
  · cases h
theorem d_ninSign : OpD X (fun x y H Q => ∃ (c : Nat) (z : Str), x = .str ⟨#[c]⟩ ∧ y = .str z ∧ Q (.bl (!decide (c ∈ z.cps.toList))) H) ninSignD := fun x y d e H Q z rx ry h q => by
  unfold ninSignD at h
  split at h
  · split at h
    · rename_i c hc
      cases h
      cases rx
      cases ry
      exact ⟨c, _, by rw [str1 hc], rfl, q _ H [] (Same.refl H) (.bl _) (fun _ h => nomatch h)⟩
    · cases h
  · cases h
def indexG (a : Str) : D → R D
  | .str b => match Txt.index0 a b with
    | some k => .ok (.int (k : Nat))
    | none => .st
  | _ => .st
theorem vg_index (hc : X.calm = true) (tk : Takes X W) (ho : VE X W o f) (he : VE X W e h)
    (hbase : attributeBase o "index" X.env (eval o X.env) = eval o X.env := by rfl)
    (hfew : ((backTo pos (starEach (e :: []) X.env)).all (fun x => !x.1) && (backToKw pos (keywordEach [] X.env)).all (fun x => x.1.isSome)
      && decide ((e :: []).length + ([] : List Keyword).length + (if ([] : List Keyword).isEmpty then 0 else 1) < 30)) = true := by rfl)
    (hline : (apos.endLine == pos.line) = true := by rfl) (hs : starEach (e :: []) X.env = (false, eval e X.env) :: starEach [] X.env := by rfl) (hplain : (backTo pos (starEach [] X.env)).any (·.1) = false := by rfl) :
    VG X W (.Call (.Attribute o "index" apos) [e] [] pos) (m1E indexG f h) :=
  ⟨peW (pe_bmS PySem.F.plainAttrs_str PySem.F.slot_str_index PySem.F.type_str_index (mt_indexX hc tk) ho.pe (pa_cons he.pe pa_nil hs) hbase hfew hline hs hplain) fun σ H Q ⟨ρ, re, q⟩ => ⟨ρ, re, (Out.bind q).mono fun d _ q v H1 s1 r1 => by
    cases d with
    | str a =>
      cases r1
      refine ⟨rfl, ρ, re.mono s1, ((Out.bind (show Out X.mg W σ H ((h ρ).bind (indexG a)) _ from q)).up s1).mono fun e _ q w H2 s2 r2 => ?_⟩
      cases e with
      | str b =>
        cases r2
        refine ⟨a, b, rfl, rfl, fun k hk => ?_, fun hn => ?_⟩
        · simp only [indexG, hk] at q
          exact q _ H2 [] (s1.trans s2) (.int _) (fun _ h => nomatch h)
        · simp only [indexG, hn] at q
          exact q.elim
      | _ => exact q.elim
    | _ => exact q.elim⟩⟩
end
end Vs
namespace Vs
open PySem PySem.Spec PyProof.Rows L2
theorem ExR.cl {K : PySem.W.Frag} {mg : Str → Option Value} {x : Str} (e : ExR K mg x) : ∃ C, mg x = some (.ref C) := let ⟨C, _, _, _, _, q, _⟩ := e.ex; ⟨C, q⟩
section
variable {X : Cx}
theorem md_startswith : MtD X (fun x xs H Q => ∃ a b, x = .str a ∧ xs = [.str b] ∧ Q (.bl (Txt.startswith a b)) H) startsG := fun a v d H Q z rd hz q => by
  unfold startsG at hz
  split at hz
  · cases hz
    cases rd
    exact ⟨_, _, rfl, rfl, q _ H [] (Same.refl H) (.bl _) (fun _ h => nomatch h)⟩
  · cases hz
theorem mn_startswith : ∀ a d c, startsG a d ≠ .ex c := fun a d c h => by
  unfold startsG at h
  split at h <;> cases h
theorem md_count : MtD X (fun x xs H Q => ∃ a b, x = .str a ∧ xs = [.str b] ∧ Q (.int (Txt.count a b)) H) countG := fun a v d H Q z rd hz q => by
  unfold countG at hz
  split at hz
  · cases hz
    cases rd
    exact ⟨_, _, rfl, rfl, q _ H [] (Same.refl H) (.int _) (fun _ h => nomatch h)⟩
  · cases hz
theorem mn_count : ∀ a d c, countG a d ≠ .ex c := fun a d c h => by
  unfold countG at h
  split at h <;> cases h
theorem md_find : MtD X (fun x xs H Q => ∃ a b, x = .str a ∧ xs = [.str b] ∧ Q (.int (Txt.find a b)) H) findG := fun a v d H Q z rd hz q => by
  unfold findG at hz
  split at hz
  · cases hz
    cases rd
    exact ⟨_, _, rfl, rfl, q _ H [] (Same.refl H) (.int _) (fun _ h => nomatch h)⟩
  · cases hz
theorem mn_find : ∀ a d c, findG a d ≠ .ex c := fun a d c h => by
  unfold findG at h
  split at h <;> cases h
end
end Vs

namespace Vs
open PySem PySem.Spec PyProof.Rows L2

/-! ### outcomes that change slots -/
inductive RX (α : Type) where
  | st | ok (a : α) (ρ : Env) | ex (c : Str) (ρ : Env)
def RX.bind {α β : Type} : RX α → (α → Env → RX β) → RX β
  | .st, _ => .st
  | .ok a ρ, f => f a ρ
  | .ex c ρ, _ => .ex c ρ
@[simp] theorem RX.bind_ok {α β : Type} (a : α) (ρ : Env) (f : α → Env → RX β) : (RX.ok a ρ).bind f = f a ρ := rfl
@[simp] theorem RX.bind_st {α β : Type} (f : α → Env → RX β) : (RX.st).bind f = .st := rfl
@[simp] theorem RX.bind_ex {α β : Type} (c : Str) (ρ : Env) (f : α → Env → RX β) : (RX.ex c ρ).bind f = .ex c ρ := rfl
def liftR {α : Type} (r : R α) (ρ : Env) : RX α := match r with
  | .ok a => .ok a ρ
  | .ex c => .ex c ρ
  | .st => .st
def liftX {α : Type} (f : Env → R α) (ρ : Env) : RX α := liftR (f ρ) ρ
section
variable {α β : Type} {K : PySem.W.Frag} {mg : Str → Option Value} {W : WX} {own : List Nat} {B B' : Hp} {σ : L2.St} {H H' : Hp}
def OutX (K : PySem.W.Frag) (mg : Str → Option Value) (W : WX) (own : List Nat) (B : Hp) (σ : L2.St) (r : RX α) (P : α → Env → Prop) : Prop := match r with
  | .ok a ρ => P a ρ
  | .ex c ρ => ∃ C, mg c = some (.ref C) ∧ ∀ H', Sta own B K ρ σ H' → W (.ref C) none σ H'
  | .st => False
theorem OutX.bind {r : RX α} {g : α → Env → RX β} {P : β → Env → Prop} (h : OutX K mg W own B σ (r.bind g) P) : OutX K mg W own B σ r fun a ρ => OutX K mg W own B σ (g a ρ) P := by
  cases r with
  | ok a ρ => exact h
  | ex c ρ => exact h
  | st => exact h
theorem OutX.mono {r : RX α} {P P' : α → Env → Prop} (h : OutX K mg W own B σ r P) (q : ∀ a ρ, r = .ok a ρ → P a ρ → P' a ρ) : OutX K mg W own B σ r P' := by
  cases r with
  | ok a ρ => exact q a ρ rfl h
  | ex c ρ => exact h
  | st => exact h
theorem OutX.up {r : RX α} {P : α → Env → Prop} (h : OutX K mg W own B σ r P) (e : Same B B') : OutX K mg W own B' σ r P := by
  cases r with
  | ok a ρ => exact h
  | ex c ρ => obtain ⟨C, h1, h2⟩ := h; exact ⟨C, h1, fun H2 s => h2 H2 (s.down e)⟩
  | st => exact h
/-- from what changes nothing -/
theorem OutX.lift {r : R α} {ρ : Env} {P : α → Env → Prop} (st : Sta own B K ρ σ H) (h : OutX K mg W own B σ (liftR r ρ) P) : Out mg W σ H r fun a => P a ρ := by
  cases r with
  | ok a => exact h
  | ex c => obtain ⟨C, h1, h2⟩ := h; exact ⟨C, h1, fun H' s => h2 H' (st.grow s)⟩
  | st => exact h
end
inductive Arg where
  | sl (j : Nat) | vl (d : D)
/-- the values of arguments: slots' things, and new ones -/
inductive AOk (K : PySem.W.Frag) (own : List Nat) (σ : L2.St) (H : Hp) : List V → List Arg → List Addr → Prop
  | nil : AOk K own σ H [] [] []
  | sl {j : Nat} {v : V} {vs : List V} {as : List Arg} {A : List Addr} : j ∈ own → σ[j]? = some (some v) → AOk K own σ H vs as A → AOk K own σ H (v :: vs) (.sl j :: as) A
  | vl {v : V} {d : D} {A1 : List Addr} {vs : List V} {as : List Arg} {A : List Addr} : Fu K H v d A1 → AOk K own σ H vs as A → (∀ a ∈ A1, a ∉ A) → AOk K own σ H (v :: vs) (.vl d :: as) (A1 ++ A)
def StaA (own : List Nat) (B : Hp) (K : PySem.W.Frag) (ρ : Env) (σ : L2.St) (H : Hp) (vs : List V) (as : List Arg) : Prop := ∃ S F A, Same B S ∧ Stx own K S F ρ σ H ∧ AOk K own σ H vs as A ∧ (∀ a ∈ A, S a = none) ∧ ∀ j ∈ own, ∀ a ∈ A, a ∉ F j
section
variable {K : PySem.W.Frag} {own : List Nat} {σ : L2.St} {H H' S : Hp}
theorem AOk.soft {vs : List V} {as : List Arg} {A : List Addr} (h : AOk K own σ H vs as A) : ∀ a ∈ A, ∃ o, H a = some o ∧ ¬ Stt o := by
  induction h with
  | nil => exact fun a m => nomatch m
  | sl _ _ _ ih => exact ih
  | vl f _ _ ih => exact fun a m => (List.mem_append.mp m).elim (fun z => f.soft a z) (ih a)
theorem AOk.length {vs : List V} {as : List Arg} {A : List Addr} (h : AOk K own σ H vs as A) : vs.length = as.length := by
  induction h with
  | nil => rfl
  | sl _ _ _ ih => rw [List.length_cons, List.length_cons, ih]
  | vl _ _ _ ih => rw [List.length_cons, List.length_cons, ih]
theorem aok_split {vs : List V} {as : List Arg} {A : List Addr} (h : AOk K own σ H vs as A) : ∃ G : Nat → List Addr, (∀ (i : Nat) (d : D), as[i]? = some (Arg.vl d) → ∃ v, vs[i]? = some v ∧ Fu K H v d (G i)) ∧
    (∀ (i j : Nat), as[i]? = some (Arg.sl j) → j ∈ own ∧ ∃ v, vs[i]? = some v ∧ σ[j]? = some (some v)) ∧ (∀ i, ∀ a ∈ G i, a ∈ A) ∧ ∀ i j, i ≠ j → ∀ a ∈ G i, a ∉ G j := by
  induction h with
  | nil => exact ⟨fun _ => [], (fun i d h => by simp at h), (fun i d h => by simp at h), (fun _ _ h => nomatch h), fun _ _ _ _ h => nomatch h⟩
  | @sl j v vs as A hj hv r ih =>
    obtain ⟨G, g1, g2, g3, g4⟩ := ih
    refine ⟨fun i => match i with | 0 => [] | i + 1 => G i, fun i d q => ?_, fun i k q => ?_, fun i a ha => ?_, fun i k ne a ha hb => ?_⟩
    · cases i with
      | zero => simp at q
      | succ i => simpa using g1 i d (by simpa using q)
    · cases i with
      | zero => simp at q; subst q; exact ⟨hj, v, rfl, hv⟩
      | succ i => simpa using g2 i k (by simpa using q)
    · cases i with
      | zero => cases ha
      | succ i => exact g3 i a ha
    · cases i with
      | zero => cases ha
      | succ i => cases k with
        | zero => cases hb
        | succ k => exact g4 i k (fun e => ne (by rw [e])) a ha hb
  | @vl v d A1 vs as A f r m ih =>
    obtain ⟨G, g1, g2, g3, g4⟩ := ih
    refine ⟨fun i => match i with | 0 => A1 | i + 1 => G i, fun i d q => ?_, fun i k q => ?_, fun i a ha => ?_, fun i k ne a ha hb => ?_⟩
    · cases i with
      | zero => simp at q; subst q; exact ⟨v, rfl, f⟩
      | succ i => simpa using g1 i d (by simpa using q)
    · cases i with
      | zero => simp at q
      | succ i => simpa using g2 i k (by simpa using q)
    · cases i with
      | zero => exact List.mem_append_left _ ha
      | succ i => exact List.mem_append_right _ (g3 i a ha)
    · cases i with
      | zero => cases k with
        | zero => exact ne rfl
        | succ k => exact m a ha (g3 k a hb)
      | succ i => cases k with
        | zero => exact m a hb (g3 i a ha)
        | succ k => exact g4 i k (fun e => ne (by rw [e])) a ha hb
end

/-! ### arguments lent, and taken back -/
def slotAt (as : List Arg) (i : Nat) : Option Nat := match as[i]? with
  | some (.sl j) => some j
  | _ => none
def argD (ρ : Env) : Arg → Option D
  | .sl j => (ρ[j]?).getD none
  | .vl d => some d
def argsD (ρ : Env) : List Arg → Option (List D)
  | [] => some []
  | a :: as => match argD ρ a, argsD ρ as with
    | some d, some ds => some (d :: ds)
    | _, _ => none
/-- J: the places lent; the others are told by what never changes -/
def okA (J : List Nat) (as : List Arg) (ds : List D) : Prop := (∀ i ∈ J, ∀ k ∈ J, i ≠ k → slotAt as i = slotAt as k → slotAt as i = none) ∧ ∀ i ∈ List.range ds.length, i ∉ J → immD (ds.getD i .non) = true
instance (J : List Nat) (as : List Arg) (ds : List D) : Decidable (okA J as ds) := inferInstanceAs (Decidable (_ ∧ _))
/-- the place at which slot j was lent -/
def lentAt (J : List Nat) (as : List Arg) (j : Nat) : Option Nat := J.find? fun i => decide (slotAt as i = some j)
def backL (J : List Nat) (as : List Arg) (es : Env) : Nat → Env → Env
  | _, [] => []
  | k, o :: ρ => (match lentAt J as k with | some i => (es[i]?).getD none | none => o) :: backL J as es (k + 1) ρ
theorem backL_length (J : List Nat) (as : List Arg) (es : Env) : ∀ (k : Nat) (ρ : Env), (backL J as es k ρ).length = ρ.length
  | _, [] => rfl
  | k, o :: ρ => by rw [backL, List.length_cons, List.length_cons, backL_length J as es (k + 1) ρ]
theorem backL_get (J : List Nat) (as : List Arg) (es : Env) : ∀ (k : Nat) (ρ : Env) (i : Nat), (backL J as es k ρ)[i]? = (ρ[i]?).map fun o => match lentAt J as (k + i) with | some i => (es[i]?).getD none | none => o
  | _, [], _ => by simp [backL]
  | k, o :: ρ, 0 => by simp [backL]
  | k, o :: ρ, i + 1 => by
    rw [backL, List.getElem?_cons_succ, List.getElem?_cons_succ, backL_get J as es (k + 1) ρ i]
    rw [show k + 1 + i = k + (i + 1) by omega]
theorem argsD_get {ρ : Env} : ∀ {as : List Arg} {ds : List D}, argsD ρ as = some ds → as.length = ds.length ∧ ∀ (i : Nat) (a : Arg), as[i]? = some a → ∃ d, ds[i]? = some d ∧ argD ρ a = some d
  | [], ds, h => by cases h; exact ⟨rfl, fun i a h => by simp at h⟩
  | a :: as, ds, h => by
    rw [argsD] at h
    cases h1 : argD ρ a with
    | none => rw [h1] at h; cases h
    | some d =>
      cases h2 : argsD ρ as with
      | none => rw [h1, h2] at h; cases h
      | some es =>
        rw [h1, h2] at h
        cases h
        obtain ⟨g1, g2⟩ := argsD_get h2
        refine ⟨by rw [List.length_cons, List.length_cons, g1], fun i b q => ?_⟩
        cases i with
        | zero => simp at q; subst q; exact ⟨d, rfl, h1⟩
        | succ i => simpa using g2 i b (by simpa using q)
theorem slotAt_some {as : List Arg} {i j : Nat} (h : slotAt as i = some j) : as[i]? = some (.sl j) := by
  unfold slotAt at h
  split at h
  · rename_i e; cases h; exact e
  · cases h
theorem lentAt_some {J : List Nat} {as : List Arg} {i j : Nat} (h : lentAt J as j = some i) : i ∈ J ∧ slotAt as i = some j := by
  unfold lentAt at h
  exact ⟨List.mem_of_find?_eq_some h, by simpa using List.find?_some h⟩
theorem lentAt_none {J : List Nat} {as : List Arg} {j : Nat} (h : lentAt J as j = none) : ∀ i ∈ J, slotAt as i ≠ some j := fun i hi z => by
  unfold lentAt at h
  have := List.find?_eq_none.mp h i hi
  simp [z] at this
section
variable {K : PySem.W.Frag} {own J : List Nat} {σ : L2.St} {S H H2 : Hp} {F : Nat → List Addr} {ρ : Env} {vs : List V} {as : List Arg} {A : List Addr} {ds : List D}
theorem Rd.imm {v : V} {d : D} {S : Hp} (r : Rd K H v d) (m : immD d = true) (t : ∀ b o, Stt o → NTb o → H b = some o → S b = some o) : Rd K S v d := ((r.fu m).at (fun a ha => nomatch ha) t).rd
/-- what stays while the slots are lent -/
noncomputable def lentS (own J : List Nat) (as : List Arg) (F : Nat → List Addr) (S H : Hp) : Hp := ext S H ((own.filter fun j => (lentAt J as j).isNone).flatMap F)
theorem lend_to (st : Stx own K S F ρ σ H) (ao : AOk K own σ H vs as A) (hA : ∀ a ∈ A, S a = none) (hF : ∀ j ∈ own, ∀ a ∈ A, a ∉ F j) (hd : argsD ρ as = some ds) (ok : okA J as ds) :
    ∃ Fc, Stx J K (lentS own J as F S H) Fc (ds.map some) (vs.map some) H := by
  obtain ⟨G, g1, g2, g3, g4⟩ := aok_split ao
  obtain ⟨hl, hg⟩ := argsD_get hd
  have hT : ∀ b o, Stt o → NTb o → H b = some o → lentS own J as F S H b = some o := fun b o t n z => ext_stt st.sub z t n
  have offF : ∀ i ∈ J, ∀ j, slotAt as i = some j → ∀ a ∈ F j, lentS own J as F S H a = none := fun i hi j hs a ha => by
    have hj := (g2 i j (slotAt_some hs)).1
    obtain ⟨h1, o, h2, h3⟩ := st.out j hj a ha
    refine ext_none h1 (fun z => ?_) fun o' e => by rw [h2] at e; cases e; exact h3
    obtain ⟨k, hk, hz⟩ := List.mem_flatMap.mp z
    obtain ⟨k1, k2⟩ := List.mem_filter.mp hk
    by_cases e : j = k
    · subst e
      have : lentAt J as j = none := by simpa using k2
      exact lentAt_none this i hi hs
    · exact st.dis j hj k k1 e a ha hz
  have offA : ∀ a ∈ A, lentS own J as F S H a = none := fun a ha => by
    obtain ⟨o, h2, h3⟩ := ao.soft a ha
    refine ext_none (hA a ha) (fun z => ?_) fun o' e => by rw [h2] at e; cases e; exact h3
    obtain ⟨k, hk, hz⟩ := List.mem_flatMap.mp z
    exact hF k (List.mem_filter.mp hk).1 a ha hz
  refine ⟨fun i => match slotAt as i with | some j => F j | none => G i, by rw [List.length_map, List.length_map, ← hl, ao.length], ext_h st.sub _, fun a o e t n => ext_stt st.sub e t n, st.tabs.up (ext_s _), fun i d q => ?_, fun i hi a ha => ?_, fun i hi k hk ne a ha hb => ?_⟩
  · rw [List.getElem?_map] at q
    cases ei : ds[i]? with
    | none => rw [ei] at q; cases q
    | some d' =>
      rw [ei] at q
      have q : d' = d := by simpa using q
      subst q
      have hi : i < ds.length := (List.getElem?_eq_some_iff.mp ei).1
      have him : i ∉ J → immD d' = true := fun n => by
        have := ok.2 i (List.mem_range.mpr hi) n
        rw [List.getD_eq_getElem?_getD, ei] at this
        exact this
      cases ea : as[i]? with
      | none => rw [List.getElem?_eq_none_iff] at ea; omega
      | some a =>
        obtain ⟨d2, e2, e3⟩ := hg i a ea
        rw [ei] at e2
        cases e2
        cases a with
        | sl j =>
          obtain ⟨hj, v, h1, h2⟩ := g2 i j ea
          have es : slotAt as i = some j := by unfold slotAt; rw [ea]
          have ej : ρ[j]? = some (some d') := by
            have e3 : (ρ[j]?).getD none = some d' := e3
            cases q : ρ[j]? with
            | none => rw [q] at e3; cases e3
            | some o => rw [q] at e3; exact congrArg some e3
          obtain ⟨v', h3, h4, _⟩ := st.val j d' ej
          rw [h2] at h3
          cases h3
          refine ⟨v, by rw [List.getElem?_map, h1]; rfl, fun _ => ?_, fun n => (h4 hj).rd.imm (him n) hT⟩
          simp only [es]
          exact h4 hj
        | vl d2 =>
          cases e3
          obtain ⟨v, h1, h2⟩ := g1 i d' ea
          have es : slotAt as i = none := by unfold slotAt; rw [ea]
          refine ⟨v, by rw [List.getElem?_map, h1]; rfl, fun _ => ?_, fun n => h2.rd.imm (him n) hT⟩
          simp only [es]
          exact h2
  · try simp only at ha
    split at ha
    · rename_i j es
      obtain ⟨_, o, h2, h3⟩ := st.out j (g2 i j (slotAt_some es)).1 a ha
      exact ⟨offF i hi j es a ha, o, h2, h3⟩
    · exact ⟨offA a (g3 i a ha), ao.soft a (g3 i a ha)⟩
  · try simp only at ha hb
    split at ha
    · rename_i j es
      have hj := (g2 i j (slotAt_some es)).1
      split at hb
      · rename_i k' es'
        have hk' := (g2 k k' (slotAt_some es')).1
        refine st.dis j hj k' hk' (fun e => ?_) a ha hb
        subst e
        have := ok.1 i hi k hk ne (es.trans es'.symm)
        rw [es] at this; cases this
      · exact hF j hj a (g3 k a hb) ha
    · split at hb
      · rename_i k' es'
        exact hF k' (g2 k k' (slotAt_some es')).1 a (g3 i a ha) hb
      · exact g4 i k ne a ha hb
/-- what was lent comes back -/
theorem lend_from (st : Stx own K S F ρ σ H) (ao : AOk K own σ H vs as A) {S2 : Hp} {F2 : Nat → List Addr} {es : Env} (s2 : Same (lentS own J as F S H) S2) (x : Stx J K S2 F2 es (vs.map some) H2) :
    ∃ F3, Stx own K (ext S H2 []) F3 (backL J as es 0 ρ) σ H2 ∧ ∀ j ∈ own, ∀ a, a ∈ F3 j → (∃ i ∈ J, a ∈ F2 i) ∨ ∃ o, S2 a = some o := by
  obtain ⟨G, _, g2, _, _⟩ := aok_split ao
  have sS : Same S S2 := (ext_s _).trans s2
  have sH : Same S H2 := sS.trans x.sub
  have kept : ∀ j ∈ own, lentAt J as j = none → ∀ a ∈ F j, ∃ o, H a = some o ∧ S2 a = some o ∧ H2 a = some o ∧ ¬ Stt o := fun j hj hn a ha => by
    obtain ⟨_, o, h2, h3⟩ := st.out j hj a ha
    have : lentS own J as F S H a = some o := ext_at st.sub h2 (List.mem_flatMap.mpr ⟨j, List.mem_filter.mpr ⟨hj, by rw [hn]; rfl⟩, ha⟩) (nst h3)
    exact ⟨o, h2, s2.mv this (nst h3), x.sub.mv (s2.mv this (nst h3)) (nst h3), h3⟩
  have hT : ∀ b o, Stt o → NTb o → H b = some o → H2 b = some o := fun b o t n z => x.sub.mv (s2.mv (ext_stt st.sub z t n) n) n
  have mem3 : ∀ j ∈ own, ∀ a, a ∈ (match lentAt J as j with | some i => F2 i | none => F j) → (∃ i ∈ J, a ∈ F2 i) ∨ ∃ o, S2 a = some o := fun j hj a ha => by
    split at ha
    · rename_i i e
      exact .inl ⟨i, (lentAt_some e).1, ha⟩
    · rename_i e
      obtain ⟨o, _, h, _⟩ := kept j hj e a ha
      exact .inr ⟨o, h⟩
  refine ⟨fun j => match lentAt J as j with | some i => F2 i | none => F j, ⟨by rw [backL_length]; exact st.len, ext_h sH _, fun a o e t n => ext_stt sH e t n, st.tabs.up (ext_s _), fun j e q => ?_, fun j hj a ha => ?_, fun j hj k hk ne a ha hb => ?_⟩, mem3⟩
  · rw [backL_get, Nat.zero_add] at q
    cases ej : ρ[j]? with
    | none => rw [ej] at q; cases q
    | some o =>
      rw [ej] at q
      have q : (match lentAt J as j with | some i => (es[i]?).getD none | none => o) = some e := by simpa using q
      cases hn : lentAt J as j with
      | none =>
        rw [hn] at q
        simp only at q
        subst q
        obtain ⟨v, h1, h2, h3⟩ := st.val j e ej
        refine ⟨v, h1, fun m => ?_, fun m => (h3 m).mono (ext_s _)⟩
        simp only
        refine (h2 m).at (fun a ha => ?_) hT
        obtain ⟨o, k1, _, k2, _⟩ := kept j m hn a ha
        rw [k1, k2]
      | some i =>
        rw [hn] at q
        simp only at q
        have ei : es[i]? = some (some e) := by
          cases z : es[i]? with
          | none => rw [z] at q; cases q
          | some o' => rw [z] at q; exact congrArg some q
        obtain ⟨hiJ, hs⟩ := lentAt_some hn
        obtain ⟨hj, v, h1, h2⟩ := g2 i j (slotAt_some hs)
        obtain ⟨v', k1, k2, _⟩ := x.val i e ei
        rw [List.getElem?_map, h1] at k1
        have k1 : v = v' := by simpa using k1
        subst k1
        refine ⟨v, h2, fun m => ?_, fun m => absurd hj m⟩
        simp only
        exact k2 hiJ
  · try simp only at ha
    split at ha
    · rename_i i e
      obtain ⟨h1, o, h2, h3⟩ := x.out i (lentAt_some e).1 a ha
      exact ⟨ext_none (sS.free h1) (fun z => nomatch z) (fun o' e' => by rw [h2] at e'; cases e'; exact h3), o, h2, h3⟩
    · rename_i e
      obtain ⟨o, _, _, k2, k3⟩ := kept j hj e a ha
      exact ⟨ext_none (st.out j hj a ha).1 (fun z => nomatch z) (fun o' e' => by rw [k2] at e'; cases e'; exact k3), o, k2, k3⟩
  · try simp only at ha hb
    split at ha
    · rename_i i e
      obtain ⟨i1, i2⟩ := lentAt_some e
      split at hb
      · rename_i i' e'
        obtain ⟨i1', i2'⟩ := lentAt_some e'
        refine x.dis i i1 i' i1' (fun z => ?_) a ha hb
        subst z
        rw [i2] at i2'
        exact ne (Option.some.inj i2')
      · rename_i e'
        obtain ⟨o, _, k1, _⟩ := kept k hk e' a hb
        rw [(x.out i i1 a ha).1] at k1; cases k1
    · rename_i e
      split at hb
      · rename_i i' e'
        obtain ⟨o, _, k1, _⟩ := kept j hj e a ha
        rw [(x.out i' (lentAt_some e').1 a hb).1] at k1; cases k1
      · exact st.dis j hj k hk ne a ha hb
theorem lend_sta (st : Stx own K S F ρ σ H) (ao : AOk K own σ H vs as A) {es : Env} (x : Sta J (lentS own J as F S H) K es (vs.map some) H2) : Sta own S K (backL J as es 0 ρ) σ H2 := by
  obtain ⟨S2, F2, s2, x⟩ := x
  obtain ⟨F3, y, _⟩ := lend_from st ao s2 x
  exact ⟨_, F3, ext_s _, y⟩
theorem lend_staV (st : Stx own K S F ρ σ H) (ao : AOk K own σ H vs as A) {es : Env} {v : V} {d : D} (x : StaV J (lentS own J as F S H) K es (vs.map some) H2 v d) : StaV own S K (backL J as es 0 ρ) σ H2 v d := by
  obtain ⟨S2, F2, A2, s2, x, f, n1, n2⟩ := x
  obtain ⟨F3, y, m⟩ := lend_from st ao s2 x
  refine ⟨_, F3, A2, ext_s _, y, f, fun a ha => ?_, fun j hj a ha z => ?_⟩
  · obtain ⟨o, h1, h2⟩ := f.soft a ha
    exact ext_none (((ext_s _).trans s2).free (n1 a ha)) (fun z => nomatch z) (fun o' e => by rw [h1] at e; cases e; exact h2)
  · rcases m j hj a z with ⟨i, hi, h⟩ | ⟨o, h⟩
    · exact n2 i hi a ha h
    · rw [n1 a ha] at h; cases h
end

/-! ### readings that may change slots -/
def tX (K : PySem.W.Frag) (mg : Str → Option Value) (W : WX) (own : List Nat) (f : Env → RX D) : TE := fun σ H Q => ∃ B ρ, Sta own B K ρ σ H ∧ OutX K mg W own B σ (f ρ) fun d ρ' => ∀ v H', StaV own B K ρ' σ H' v d → Q v H'
def tXT (K : PySem.W.Frag) (mg : Str → Option Value) (W : WX) (own : List Nat) (f : Env → RX Bool) : TT := fun σ H Q => ∃ B ρ, Sta own B K ρ σ H ∧ OutX K mg W own B σ (f ρ) fun b ρ' => ∀ H', Sta own B K ρ' σ H' → Q b H'
def tXA (K : PySem.W.Frag) (mg : Str → Option Value) (W : WX) (own : List Nat) (f : Env → RX (List Arg)) : TA := fun σ H Q => ∃ B ρ, Sta own B K ρ σ H ∧ OutX K mg W own B σ (f ρ) fun as ρ' => ∀ vs H', StaA own B K ρ' σ H' vs as → Q vs H'
/-- arguments without effects -/
def tPA (K : PySem.W.Frag) (mg : Str → Option Value) (W : WX) (own : List Nat) (f : Env → R (List Arg)) : TA := fun σ H Q => ∃ ρ, REnv K ρ σ H ∧ Out mg W σ H (f ρ) fun as => ∀ vs H' A, Same H H' → AOk K own σ H' vs as A → (∀ a ∈ A, H a = none) → Q vs H'
structure VX (X : Cx) (W : WX) (own : List Nat) (e : Expr) (f : Env → RX D) : Prop where
  pe : PE X e (tX X.K X.mg W own f)
structure VXT (X : Cx) (W : WX) (own : List Nat) (e : Expr) (f : Env → RX Bool) : Prop where
  pt : PT X e (tXT X.K X.mg W own f)
structure VXW (X : Cx) (W : WX) (own : List Nat) (e : Expr) (f : Env → RX Bool) : Prop where
  pw : PW X e (tXT X.K X.mg W own f)
structure VXA (X : Cx) (W : WX) (own : List Nat) (es : List Expr) (f : Env → RX (List Arg)) : Prop where
  pa : PA X es (tXA X.K X.mg W own f)
structure VPA (X : Cx) (W : WX) (own : List Nat) (es : List Expr) (f : Env → R (List Arg)) : Prop where
  pa : PA X es (tPA X.K X.mg W own f)
def nilP (_ : Env) : R (List Arg) := .ok []
def slP (j : Nat) (fs : Env → R (List Arg)) (ρ : Env) : R (List Arg) := (varE j ρ).bind fun _ => (fs ρ).bind fun as => .ok (.sl j :: as)
def vlP (f : Env → R D) (fs : Env → R (List Arg)) (ρ : Env) : R (List Arg) := (f ρ).bind fun d => (fs ρ).bind fun as => .ok (.vl d :: as)
def nilXA (ρ : Env) : RX (List Arg) := .ok [] ρ
def slXA (j : Nat) (fs : Env → RX (List Arg)) (ρ : Env) : RX (List Arg) := (liftX (varE j) ρ).bind fun _ ρ => (fs ρ).bind fun as ρ' => .ok (.sl j :: as) ρ'
def immX (d : D) (ρ : Env) : RX D := if immD d = true then .ok d ρ else .st
def vlXA (f : Env → RX D) (fs : Env → RX (List Arg)) (ρ : Env) : RX (List Arg) := ((f ρ).bind immX).bind fun d ρ => (fs ρ).bind fun as ρ' => .ok (.vl d :: as) ρ'
section
variable {X : Cx} {W : WX} {own : List Nat} {e a b : Expr} {es : List Expr} {f : Env → RX D} {g : Env → R D} {fs : Env → RX (List Arg)} {gs : Env → R (List Arg)} {x : Str} {p pos : Pos}
theorem varE_get {j : Nat} {ρ : Env} {P : D → Prop} {mg : Str → Option Value} {σ : L2.St} {H : Hp} (o : Out mg W σ H (varE j ρ) P) : ∃ d, ρ[j]? = some (some d) ∧ varE j ρ = .ok d ∧ P d := by
  unfold varE at o ⊢
  split at o
  · rename_i d e
    exact ⟨d, e, rfl, o⟩
  · exact o.elim
theorem vpa_nil : VPA X W own [] nilP := ⟨paW pa_nil fun σ H Q ⟨ρ, re, o⟩ => o [] H [] (Same.refl H) .nil (fun _ z => nomatch z)⟩
theorem vpa_sl (j : Nat) (pv : PE X (.Name x p) (tVar j)) (hr : VPA X W own es gs) (hj : j ∈ own := by decide) (hs : starEach (.Name x p :: es) X.env = (false, eval (.Name x p) X.env) :: starEach es X.env := by rfl) : VPA X W own (.Name x p :: es) (slP j gs) :=
  ⟨paW (pa_cons pv hr.pa hs) fun σ H Q ⟨ρ, re, o⟩ => by
    obtain ⟨d, hd, hv, o⟩ := varE_get (Out.bind o)
    obtain ⟨v, h1, h2⟩ := re.val j d hd
    exact ⟨v, h1, ρ, re, (Out.bind o).mono fun as _ q vs H' A s ao n => q (v :: vs) H' A s (.sl hj h1 ao) n⟩⟩
theorem vpa_vl (he : VG X W e g) (hr : VPA X W own es gs) (hs : starEach (e :: es) X.env = (false, eval e X.env) :: starEach es X.env := by rfl) : VPA X W own (e :: es) (vlP g gs) :=
  ⟨paW (pa_cons he.pe hr.pa hs) fun σ H Q ⟨ρ, re, o⟩ => ⟨ρ, re, (Out.bind o).mono fun d _ q v H1 A s1 f1 n1 => ⟨ρ, re.mono s1, ((Out.bind q).up s1).mono fun as _ q vs H2 A2 s2 ao n2 => q (v :: vs) H2 (A ++ A2) (s1.trans s2)
    (.vl (f1.same s2) ao fun x hx hb => by obtain ⟨o, ho⟩ := f1.there x hx; rw [n2 x hb] at ho; cases ho) fun x hx => (List.mem_append.mp hx).elim (fun z => n1 x z) fun z => s1.free (n2 x z)⟩⟩⟩
theorem VPA.vxa (h : VPA X W own es gs) : VXA X W own es (liftX gs) := ⟨paW h.pa fun σ H Q ⟨B, ρ, st, o⟩ => ⟨ρ, st.env, (OutX.lift st o).mono fun as _ q vs H' A s ao n => by
  obtain ⟨S, F, b, y⟩ := st
  refine q vs H' ⟨_, F, A, b.trans (ext_s []), y.grow s (A := []) (fun _ z => nomatch z), ao, fun a ha => ?_, fun j m a ha z => ?_⟩
  · obtain ⟨o, h1, h2⟩ := ao.soft a ha
    exact ext_none (y.sub.free (n a ha)) (fun z => nomatch z) (fun o' e => by rw [h1] at e; cases e; exact h2)
  · obtain ⟨_, o, e, _⟩ := y.out j m a z
    rw [n a ha] at e; cases e⟩⟩
theorem VG.vx (h : VG X W e g) : VX X W own e (liftX g) := ⟨peW h.pe fun σ H Q ⟨B, ρ, st, o⟩ => ⟨ρ, st.env, (OutX.lift st o).mono fun d _ q v H' A s f n => q v H' (st.staV s f n)⟩⟩
theorem VT.vxt {t : Env → R Bool} (h : VT X W e t) : VXT X W own e (liftX t) := ⟨ptW h.pt fun σ H Q ⟨B, ρ, st, o⟩ => ⟨ρ, st.env, (OutX.lift st o).mono fun d _ q H' s => q H' (st.grow s)⟩⟩
theorem vxa_nil : VXA X W own [] nilXA := ⟨paW pa_nil fun σ H Q ⟨B, ρ, ⟨S, F, b, y⟩, o⟩ => o [] H ⟨S, F, [], b, y, .nil, (fun _ z => nomatch z), fun _ _ _ z => nomatch z⟩⟩
theorem vxa_sl (j : Nat) (pv : PE X (.Name x p) (tVar j)) (hr : VXA X W own es fs) (hj : j ∈ own := by decide) (hs : starEach (.Name x p :: es) X.env = (false, eval (.Name x p) X.env) :: starEach es X.env := by rfl) : VXA X W own (.Name x p :: es) (slXA j fs) :=
  ⟨paW (pa_cons pv hr.pa hs) fun σ H Q ⟨B, ρ, st, o⟩ => by
    obtain ⟨d, hd, hv, o⟩ := varE_get (OutX.lift st (OutX.bind o))
    obtain ⟨v, h1, h2⟩ := st.env.val j d hd
    exact ⟨v, h1, B, ρ, st, (OutX.bind o).mono fun as ρ' _ q vs H' ⟨S, F, A, b, y, ao, n1, n2⟩ => q (v :: vs) H' ⟨S, F, A, b, y, .sl hj h1 ao, n1, n2⟩⟩⟩
/-- an argument that never changes; what stands behind it may change slots -/
theorem vxa_vl (he : VX X W own e f) (hr : VXA X W own es fs) (hs : starEach (e :: es) X.env = (false, eval e X.env) :: starEach es X.env := by rfl) : VXA X W own (e :: es) (vlXA f fs) :=
  ⟨paW (pa_cons he.pe hr.pa hs) fun σ H Q ⟨B, ρ, st, o⟩ => ⟨B, ρ, st, (OutX.bind (OutX.bind o)).mono fun d ρ1 _ q v H1 ⟨S1, F1, A1, b1, y1, f1, n1, n2⟩ => by
    unfold immX at q
    by_cases m : immD d = true
    rotate_left
    · rw [if_neg m] at q; exact q.elim
    rw [if_pos m] at q
    have q := OutX.bind (show OutX X.K X.mg W own B σ ((fs ρ1).bind fun as ρ' => .ok (.vl d :: as) ρ') _ from q)
    refine ⟨S1, ρ1, ⟨S1, F1, Same.refl _, y1⟩, (q.up b1).mono fun as ρ' _ q vs H2 ⟨S2, F2, A2, b2, y2, ao, n3, n4⟩ => ?_⟩
    have fd : Fu X.K H2 v d [] := (f1.rd.fu m).at (fun a ha => nomatch ha) fun b o t n z => y2.sub.mv (b2.mv (y1.cl b _ z t n) n) n
    exact q (v :: vs) H2 ⟨S2, F2, A2, b1.trans b2, y2, .vl fd ao (fun _ z => nomatch z), n3, n4⟩⟩⟩
end

/-! ### defs that are lent their arguments -/
def cutE (J : List Nat) (n : Nat) (ρ : Env) : Env := (List.range n).map fun i => if i ∈ J then (ρ[i]?).getD none else none
def bodyB (J : List Nat) (n : Nat) : Sr → RX D
  | .nx ρ => .ok .non (cutE J n ρ)
  | .rb d ρ => .ok d (cutE J n ρ)
  | .ex c ρ => .ex c (cutE J n ρ)
  | _ => .st
def runL (N n : Nat) (J : List Nat) (b : Env → Sr) (ds : List D) : RX D := bodyB J n (b (ds.map some ++ List.replicate (N - ds.length) none))
def spB (K : PySem.W.Frag) (mg : Str → Option Value) (n : Nat) (J : List Nat) (m : List D → RX D) : Sp := fun vs H Q E => vs.length = n ∧ ∃ S F ds, Stx J K S F (ds.map some) (vs.map some) H ∧ match m ds with
  | .ok d es => ∀ v H', StaV J S K es (vs.map some) H' v d → Q v H'
  | .ex c es => ∃ C, mg c = some (.ref C) ∧ ∀ H', Sta J S K es (vs.map some) H' → E (.ref C) none H'
  | .st => False
section
variable {K : PySem.W.Frag} {J own : List Nat} {B S H : Hp} {F : Nat → List Addr} {ρ : Env} {σ : L2.St} {vs : List V} {P : Nat → Option V}
theorem cutE_get {n i : Nat} {d : D} (h : (cutE J n ρ)[i]? = some (some d)) : i < n ∧ i ∈ J ∧ ρ[i]? = some (some d) := by
  unfold cutE at h
  rw [List.getElem?_map] at h
  cases e : (List.range n)[i]? with
  | none => rw [e] at h; cases h
  | some k =>
    obtain ⟨h1, h2⟩ := List.getElem?_eq_some_iff.mp e
    rw [List.getElem_range] at h2
    subst h2
    rw [e] at h
    have h : (if i ∈ J then (ρ[i]?).getD none else none) = some d := by simpa using h
    split at h
    · rename_i m
      refine ⟨by simpa using h1, m, ?_⟩
      cases z : ρ[i]? with
      | none => rw [z] at h; cases h
      | some o => rw [z] at h; exact congrArg some h
    · cases h
theorem Stx.cut (x : Stx J K S F ρ σ H) (pn : Pin P σ) (hP : ∀ i ∈ J, P i = vs[i]?) : Stx J K S F (cutE J vs.length ρ) (vs.map some) H := by
  refine ⟨by simp [cutE], x.sub, x.cl, x.tabs, fun i d q => ?_, x.out, x.dis⟩
  obtain ⟨h1, h2, h3⟩ := cutE_get q
  obtain ⟨v, g1, g2, _⟩ := x.val i d h3
  have e : vs[i]? = some vs[i] := List.getElem?_eq_getElem h1
  have g3 := pn i vs[i] ((hP i h2).trans e)
  rw [g1] at g3
  cases g3
  exact ⟨_, by rw [List.getElem?_map, e]; rfl, fun m => g2 m, fun n => absurd h2 n⟩
theorem Sta.cut (x : Sta J B K ρ σ H) (pn : Pin P σ) (hP : ∀ i ∈ J, P i = vs[i]?) : Sta J B K (cutE J vs.length ρ) (vs.map some) H := let ⟨S, F, b, y⟩ := x; ⟨S, F, b, y.cut pn hP⟩
theorem StaV.cut {v : V} {d : D} (x : StaV J B K ρ σ H v d) (pn : Pin P σ) (hP : ∀ i ∈ J, P i = vs[i]?) : StaV J B K (cutE J vs.length ρ) (vs.map some) H v d := let ⟨S, F, A, b, y, z⟩ := x; ⟨S, F, A, b, y.cut pn hP, z⟩
theorem Stx.long (x : Stx J K S F ρ σ H) (n : Nat) : Stx J K S F (ρ ++ List.replicate n none) (σ ++ List.replicate n none) H := by
  refine ⟨by rw [List.length_append, List.length_append, x.len, List.length_replicate, List.length_replicate], x.sub, x.cl, x.tabs, fun i d q => ?_, x.out, x.dis⟩
  rw [List.getElem?_append] at q
  split at q
  · rename_i hi
    obtain ⟨v, g1, g2⟩ := x.val i d q
    exact ⟨v, by rw [List.getElem?_append_left (by rw [← x.len]; exact hi)]; exact g1, g2⟩
  · rw [List.getElem?_replicate] at q
    split at q <;> cases q
end
/-- what is kept of the arguments lent -/
def pinV (J : List Nat) (vs : List V) (i : Nat) : Option V := if i ∈ J then vs[i]? else none
abbrev olB (J : List Nat) (vs : List V) : Ol := { l := [], r := J, e := J, P := pinV J vs }
section
variable {P : Program} {w : World} {K : PySem.W.Frag} {mg : Str → Option Value} {base : Heap}
theorem fnB_ok {x qual : Str} {st : Stmt} {f : Addr} {fd : FuncData} {N ps : List Str} {k : Nat} {J own' : List Nat} {b : Env → Sr} (F : Fun K x qual st f fd) (S : FnScope N ps (defScope st)) (w' : ∀ i ∈ J, i ∈ own')
    (hbody : ∀ (vs : List V) (cdv : Value) (A : Around) (outer : List PySem.Env) (s : Shared) (H : Hp) (E : XK), Room k (A.deeper (envOfC qual (defScope st) s.heap.objs.size f cdv)) →
      VSs (cxOf (L2.CX P w) P w K mg base N qual (defScope st) f cdv A outer s H E) (fun cls d _ H => E cls d H) J own' (olB J vs) (defBody st) b) :
    FnOk P w K mg base (L2.CX P w) (k + 1) f fd ps (spB K mg ps.length J (runL N.length ps.length J b)) := by
  refine F.okX S (fun vs H Q E h => h.1) (fun cdv A outer s H vs Q E hr h => ?_)
  obtain ⟨hl, S0, F0, ds, y, h⟩ := h
  have hdl : ds.length = vs.length := by have := y.len; simpa using this
  have hP : ∀ i ∈ J, pinV J vs i = vs[i]? := fun i m => by unfold pinV; rw [if_pos m]
  have pn0 : Pin (pinV J vs) (L2.start N vs) := fun i v e => by
    unfold pinV at e
    split at e
    · unfold L2.start
      rw [List.getElem?_append_left (by rw [List.length_map]; exact (List.getElem?_eq_some_iff.mp e).1), List.getElem?_map, e]
      rfl
    · cases e
  refine ⟨_, (hbody vs cdv A outer s H E hr).ps, S0, ds.map some ++ List.replicate (N.length - ds.length) none, ⟨S0, F0, Same.refl _, by unfold L2.start; rw [hdl]; exact y.long _⟩, pn0, ?_⟩
  unfold runL at h
  rw [← hl] at h
  generalize b (ds.map some ++ List.replicate (N.length - ds.length) none) = q at h
  cases q with
  | st => exact h.elim
  | nx ρ => exact fun σ H' y pn => h .non H' (((y.weak w').cut pn hP).staV (Same.refl _) .non (fun _ z => nomatch z))
  | rt d => exact h.elim
  | rb d ρ => exact fun v σ H' y pn => h v H' (y.cut pn hP)
  | bk ρ => exact h.elim
  | ct ρ => exact h.elim
  | ex c ρ =>
    obtain ⟨C, h1, h2⟩ := h
    exact ⟨C, h1, fun σ H' y pn => h2 H' (y.cut pn hP)⟩
end
/-- a def that is lent the arguments J -/
def CalB (P : Program) (w : World) (K : PySem.W.Frag) (mg : Str → Option Value) (base : Heap) (x : Str) (ps : List Str) (J : List Nat) (k : Nat) (m : List D → RX D) : Prop :=
  ∃ f fd, mg x = some (.ref f) ∧ PySem.W.keepIn K (.ref f) = true ∧ Binds K fd ps [] ∧ FnOk P w K mg base (L2.CX P w) k f fd ps (spB K mg ps.length J m)
/-- a method of the class c that is lent the arguments J -/
def CalBM (P : Program) (w : World) (K : PySem.W.Frag) (mg : Str → Option Value) (base : Heap) (c x : Str) (ps : List Str) (J : List Nat) (k : Nat) (m : List D → RX D) : Prop :=
  ∃ C f fd, PySem.W.nsIn K mainGlobals c = some (some (.ref C)) ∧ Cls K C ∧ Meth K C x f ∧ Binds K fd ps [] ∧ FnOk P w K mg base (L2.CX P w) k f fd ps (spB K mg ps.length J m)
/-- a method of the class c that changes nothing -/
def CalM (P : Program) (w : World) (K : PySem.W.Frag) (mg : Str → Option Value) (base : Heap) (c x : Str) (ps : List Str) (k : Nat) (m : List D → R D) : Prop :=
  ∃ C f fd, PySem.W.nsIn K mainGlobals c = some (some (.ref C)) ∧ Cls K C ∧ Meth K C x f ∧ Binds K fd ps [] ∧ FnOk P w K mg base (L2.CX P w) k f fd ps (spF K mg ps.length m)
/-- a class: how its objects are made -/
def CalMk (P : Program) (w : World) (K : PySem.W.Frag) (mg : Str → Option Value) (base : Heap) (c : Str) (ps : List Str) (k : Nat) (m : List D → RX D) : Prop :=
  ∃ C f fd, PySem.W.nsIn K mainGlobals c = some (some (.ref C)) ∧ mg c = some (.ref C) ∧ Mk K C f ∧ Binds K fd ps [] ∧ FnOk P w K mg base (L2.CX P w) k f fd ps (spB K mg ps.length [0] m)
/-- a method as the top left it -/
def MDef (K : PySem.W.Frag) (mg : Str → Option Value) (c x qual : Str) (st : Stmt) : Prop := ∃ C f fd, PySem.W.nsIn K mainGlobals c = some (some (.ref C)) ∧ mg c = some (.ref C) ∧ Cls K C ∧ Meth K C x f ∧ Fun K x qual st f fd
section
variable {P : Program} {w : World} {K : PySem.W.Frag} {mg : Str → Option Value} {base : Heap} {x c qual : Str} {st : Stmt} {N ps : List Str} {k : Nat} {J own' : List Nat} {b : Env → Sr}
theorem calB_mk (F : Def K mg x st) (S : FnScope N ps (defScope st)) (w' : ∀ i ∈ J, i ∈ own')
    (hb : ∀ (kV doc pm : Value) (an : Option Addr) (cdv ct : Value) (us : List Value), us.length = ps.length → bindArgs (PySem.W.fnOf x x (defArgs st) (defBody st) (defScope st) .none kV doc pm an cdv ct) ⟨us, []⟩ = pure (ps.zip us))
    (hbody : ∀ (vs : List V) (f : Addr) (cdv : Value) (A : Around) (outer : List PySem.Env) (s : Shared) (H : Hp) (E : XK), Room k (A.deeper (envOfC x (defScope st) s.heap.objs.size f cdv)) →
      VSs (cxOf (L2.CX P w) P w K mg base N x (defScope st) f cdv A outer s H E) (fun cls d _ H => E cls d H) J own' (olB J vs) (defBody st) b) :
    CalB P w K mg base x ps J (k + 1) (runL N.length ps.length J b) := by
  obtain ⟨f, fd, F, h⟩ := F
  exact ⟨f, fd, h, F.kp, F.binds hb, fnB_ok F S w' (fun vs cdv A outer s H E hr => hbody vs f cdv A outer s H E hr)⟩
theorem calBM_mk (F : MDef K mg c x qual st) (S : FnScope N ps (defScope st)) (w' : ∀ i ∈ J, i ∈ own')
    (hb : ∀ (kV doc pm : Value) (an : Option Addr) (cdv ct : Value) (us : List Value), us.length = ps.length → bindArgs (PySem.W.fnOf x qual (defArgs st) (defBody st) (defScope st) .none kV doc pm an cdv ct) ⟨us, []⟩ = pure (ps.zip us))
    (hbody : ∀ (vs : List V) (f : Addr) (cdv : Value) (A : Around) (outer : List PySem.Env) (s : Shared) (H : Hp) (E : XK), Room k (A.deeper (envOfC qual (defScope st) s.heap.objs.size f cdv)) →
      VSs (cxOf (L2.CX P w) P w K mg base N qual (defScope st) f cdv A outer s H E) (fun cls d _ H => E cls d H) J own' (olB J vs) (defBody st) b) :
    CalBM P w K mg base c x ps J (k + 1) (runL N.length ps.length J b) := by
  obtain ⟨C, f, fd, h1, _, h2, h3, F⟩ := F
  exact ⟨C, f, fd, h1, h2, h3, F.binds hb, fnB_ok F S w' (fun vs cdv A outer s H E hr => hbody vs f cdv A outer s H E hr)⟩
theorem calMk_mk (F : MDef K mg c "__init__" qual st) (M : ∀ C f, PySem.W.nsIn K mainGlobals c = some (some (.ref C)) → Meth K C "__init__" f → Mk K C f) (S : FnScope N ps (defScope st)) (w' : ∀ i ∈ [0], i ∈ own')
    (hb : ∀ (kV doc pm : Value) (an : Option Addr) (cdv ct : Value) (us : List Value), us.length = ps.length → bindArgs (PySem.W.fnOf "__init__" qual (defArgs st) (defBody st) (defScope st) .none kV doc pm an cdv ct) ⟨us, []⟩ = pure (ps.zip us))
    (hbody : ∀ (vs : List V) (f : Addr) (cdv : Value) (A : Around) (outer : List PySem.Env) (s : Shared) (H : Hp) (E : XK), Room k (A.deeper (envOfC qual (defScope st) s.heap.objs.size f cdv)) →
      VSs (cxOf (L2.CX P w) P w K mg base N qual (defScope st) f cdv A outer s H E) (fun cls d _ H => E cls d H) [0] own' (olB [0] vs) (defBody st) b) :
    CalMk P w K mg base c ps (k + 1) (runL N.length ps.length [0] b) := by
  obtain ⟨C, f, fd, h1, h0, h2, h3, F⟩ := F
  exact ⟨C, f, fd, h1, h0, M C f h1 h3, F.binds hb, fnB_ok F S w' (fun vs cdv A outer s H E hr => hbody vs f cdv A outer s H E hr)⟩
theorem calM_mk (F : MDef K mg c x qual st) (S : FnScope N ps (defScope st)) (hps : ps.length ≤ N.length)
    (hb : ∀ (kV doc pm : Value) (an : Option Addr) (cdv ct : Value) (us : List Value), us.length = ps.length → bindArgs (PySem.W.fnOf x qual (defArgs st) (defBody st) (defScope st) .none kV doc pm an cdv ct) ⟨us, []⟩ = pure (ps.zip us))
    (hbody : ∀ (f : Addr) (cdv : Value) (A : Around) (outer : List PySem.Env) (s : Shared) (H : Hp) (E : XK), Room k (A.deeper (envOfC qual (defScope st) s.heap.objs.size f cdv)) →
      VSs (cxOf (L2.CX P w) P w K mg base N qual (defScope st) f cdv A outer s H E) (fun cls d _ H => E cls d H) [] own' nol (defBody st) b) :
    CalM P w K mg base c x ps (k + 1) (runB N.length b) := by
  obtain ⟨C, f, fd, h1, _, h2, h3, F⟩ := F
  exact ⟨C, f, fd, h1, h2, h3, F.binds hb, fn_ok F S hps (fun cdv A outer s H E hr => hbody f cdv A outer s H E hr)⟩
end

/-! ### calls that lend -/
def lendX (n : Nat) (J : List Nat) (m : List D → RX D) (fs : Env → RX (List Arg)) (ρ : Env) : RX D := (fs ρ).bind fun as ρ => match argsD ρ as with
  | some ds => if as.length = n ∧ okA J as ds then (match m ds with
    | .ok d es => .ok d (backL J as es 0 ρ)
    | .ex c es => .ex c (backL J as es 0 ρ)
    | .st => .st) else .st
  | none => .st
theorem lend_core {K : PySem.W.Frag} {mg : Str → Option Value} {W : WX} {own J : List Nat} {n : Nat} {m : List D → RX D} {B H : Hp} {σ : L2.St} {ρ : Env} {vs : List V} {as : List Arg} {Q : VK}
    (h : StaA own B K ρ σ H vs as) (o : OutX K mg W own B σ (match argsD ρ as with
      | some ds => if as.length = n ∧ okA J as ds then (match m ds with
        | .ok d es => RX.ok d (backL J as es 0 ρ)
        | .ex c es => .ex c (backL J as es 0 ρ)
        | .st => .st) else .st
      | none => .st) fun d ρ' => ∀ v H', StaV own B K ρ' σ H' v d → Q v H') : spB K mg n J m vs H Q (WE W σ) := by
  obtain ⟨S, F, A, b, y, ao, n1, n2⟩ := h
  cases hd : argsD ρ as with
  | none => rw [hd] at o; exact o.elim
  | some ds =>
    rw [hd] at o
    simp only at o
    by_cases c : as.length = n ∧ okA J as ds
    rotate_left
    · rw [if_neg c] at o; exact o.elim
    rw [if_pos c] at o
    obtain ⟨Fc, st⟩ := lend_to y ao n1 n2 hd c.2
    refine ⟨ao.length.trans c.1, _, Fc, ds, st, ?_⟩
    cases hm : m ds with
    | st => rw [hm] at o; exact o.elim
    | ok d es => rw [hm] at o; exact fun v H' z => o v H' ((lend_staV y ao z).down b)
    | ex c es =>
      rw [hm] at o
      obtain ⟨C, h1, h2⟩ := o
      exact ⟨C, h1, fun H' z => h2 H' ((lend_sta y ao z).down b)⟩
section
variable {X : Cx} {W : WX} {own J : List Nat} {e : Expr} {es : List Expr} {f : Env → RX D} {fs : Env → RX (List Arg)} {x c : Str} {p p1 apos pos : Pos} {ps : List Str} {k k' : Nat} {m : List D → RX D}
theorem vx_callB {n : Nat} (C : CalB X.prog X.w X.K X.mg X.base x ps J k m) (hr : Room k' X.A) (tk : Takes X W) (hg : Gl X x) (ha : VXA X W own (e :: es) fs) (hk : k ≤ k' := by decide) (hn : ps.length = n := by rfl) (hdb : (x == ("__debug__" : Str)) = false := by decide)
    (he : starEach (e :: es) X.env = (false, eval e X.env) :: starEach es X.env := by rfl) (hpl : (backTo pos (starEach es X.env)).any (·.1) = false := by rfl) :
    VX X W own (.Call (.Name x p) (e :: es) [] pos) (lendX n J m fs) := by
  subst hn
  obtain ⟨f, fd, h1, h2, h3, h4⟩ := C
  exact ⟨peW (pe_callS h4 (hr.mono hk) hg h1 h2 h3 (fun σ => passAt tk σ) ha.pa hdb he hpl) fun σ H Q ⟨B, ρ, st, o⟩ => ⟨B, ρ, st, (OutX.bind o).mono fun as ρ' _ q vs H' z => lend_core z q⟩⟩
/-- o.m(e, ..), by a wish at the slots -/
def tMethS' (C : Addr) (m : Str) (sp : Sp) (E : L2.St → XK) (ta : TE) (t : TA) : TE := fun σ H Q => ta σ H fun x H1 => ∃ a dx fs, x = .ref a ∧ H1 a = some (.ins C dx fs) ∧ fs.lookup m = none ∧ t σ H1 fun vs H2 => sp (x :: vs) H2 Q (E σ)
theorem pe_methS' {CX : CXT} {C f : Addr} {m : Str} {fd : FuncData} {sp : Sp} {E : L2.St → XK} {o : Expr} {ta : TE} {t : TA} {pl : Sem Bool} (he : PE X o ta) (c : Cls X.K C) (hm : Meth X.K C m f) (F : FnOk X.prog X.w X.K X.mg X.base CX k f fd ps sp) (hr : Room k X.A) (hb : Binds X.K fd ps []) (hx : ∀ σ, PassesAt CX X σ (E σ)) (ha : PA X (e :: es) t)
    (hst : starEach (e :: es) X.env = (false, eval e X.env) :: starEach es X.env := by rfl) (hpl : (backTo pos (starEach es X.env)).any (·.1) = false := by rfl)
    (ht : eval (.Call (.Attribute o m apos) (e :: es) [] pos) X.env = (do
      let ov ← eval o X.env
      standAt apos.atName
      let (f, first) ← holding [ov] (getMethod ov m pl)
      callWith pos f first (backTo pos (starEach (e :: es) X.env)) (backToKw pos (keywordEach [] X.env))) := by rfl) :
    PE X (.Call (.Attribute o m apos) (e :: es) [] pos) (tMethS' C m sp E ta t) := by
  refine ⟨fun pins s σ H Q I h => ?_⟩
  refine PySem.W.methodCall_KW (pl := pl) (thn (he.run pins s σ H _ I h) fun u s1 ⟨x, H1, I1, rx, a, dx, fs, ex, ea, l, q⟩ => ?_) ht
  subst ex
  obtain rfl : u = Value.ref a := rx
  refine getmeth_ok I1 ea c hm l ?_
  refine PySem.W.callWith_K (first := [.ref a]) (h₀ := X.base) I.ok.mod.kin hm.kp (thn (ha.run pos pins s1 σ H1 _ I1 q) fun us s2 ⟨vs, H2, I2, r, q2⟩ => ⟨I2.kIn, ?_⟩) hst hpl
  exact run_fnS (us := .ref a :: us) (vs := .ref a :: vs) F hr hb (hx σ) I2 (.cons rfl r) q2
theorem pe_meth0S' {CX : CXT} {C f : Addr} {m : Str} {fd : FuncData} {sp : Sp} {E : L2.St → XK} {o : Expr} {ta : TE} {pl : Sem Bool} (he : PE X o ta) (c : Cls X.K C) (hm : Meth X.K C m f) (F : FnOk X.prog X.w X.K X.mg X.base CX k f fd ps sp) (hr : Room k X.A) (hb : Binds X.K fd ps []) (hx : ∀ σ, PassesAt CX X σ (E σ))
    (ht : eval (.Call (.Attribute o m apos) [] [] pos) X.env = (do
      let ov ← eval o X.env
      standAt apos.atName
      let (f, first) ← holding [ov] (getMethod ov m pl)
      callWith pos f first (backTo pos (starEach [] X.env)) (backToKw pos (keywordEach [] X.env))) := by rfl) :
    PE X (.Call (.Attribute o m apos) [] [] pos) (tMethS' C m sp E ta tNil) := by
  refine ⟨fun pins s σ H Q I h => ?_⟩
  refine PySem.W.methodCall_KW (pl := pl) (thn (he.run pins s σ H _ I h) fun u s1 ⟨x, H1, I1, rx, a, dx, fs, ex, ea, l, q⟩ => ?_) ht
  subst ex
  obtain rfl : u = Value.ref a := rx
  refine getmeth_ok I1 ea c hm l ?_
  exact PySem.W.callWith_K0 (first := [.ref a]) I1.kIn hm.kp (run_fnS (us := [.ref a]) (vs := [.ref a]) F hr hb (hx σ) I1 (.cons rfl .nil) q)
/-- o.m(..), o a slot's object that is lent -/
def methX (c mn : Str) (n : Nat) (J : List Nat) (m : List D → RX D) (i : Nat) (fs : Env → RX (List Arg)) (ρ : Env) : RX D := match ρ[i]? with
  | some (some (.obj c' ks _)) => if c' = c ∧ mn ∉ ks then lendX n J m (fun ρ => (fs ρ).bind fun as ρ' => .ok (.sl i :: as) ρ') ρ else .st
  | _ => .st
theorem lookup_none {α : Type} {mn : Str} : ∀ {l : List (Str × α)}, mn ∉ l.map (·.1) → l.lookup mn = none
  | [], _ => rfl
  | (k, v) :: l, h => by
    rw [List.lookup_cons]
    have h1 : ¬ mn = k := fun z => h (by simp [z])
    rw [show (mn == k) = false by simpa using h1]
    exact lookup_none fun z => h (by simp at z ⊢; exact .inr z)
theorem meth_core {K : PySem.W.Frag} {mg : Str → Option Value} {W : WX} {own J : List Nat} {B H : Hp} {σ : L2.St} {ρ : Env} {i n : Nat} {C : Addr} {mn : Str} {t : TA} {Q : VK} {m : List D → RX D} {fs : Env → RX (List Arg)} (hi : i ∈ own)
    (hC : PySem.W.nsIn K mainGlobals c = some (some (.ref C))) (st : Sta own B K ρ σ H) (ht : ∀ (R : List V → Hp → Prop), (∃ B ρ, Sta own B K ρ σ H ∧ OutX K mg W own B σ (fs ρ) fun as ρ' => ∀ vs H', StaA own B K ρ' σ H' vs as → R vs H') → t σ H R)
    (o : OutX K mg W own B σ (methX c mn n J m i fs ρ) fun d ρ' => ∀ v H', StaV own B K ρ' σ H' v d → Q v H') : tMethS' C mn (spB K mg n J m) (WE W) (tVar i) t σ H Q := by
  unfold methX at o
  split at o
  · rename_i c' ks ds ei
    by_cases z : c' = c ∧ mn ∉ ks
    rotate_left
    · rw [if_neg z] at o; exact o.elim
    rw [if_pos z] at o
    obtain ⟨rfl, z⟩ := z
    obtain ⟨v, h1, h2⟩ := st.env.val i _ ei
    cases h2 with
    | @obj a C' dx fl _ _ _ g1 g2 g3 g4 g5 =>
      have eC : C' = C := by
        have g3 : PySem.W.nsIn K mainGlobals c' = some (some (.ref C')) := g3
        rw [hC] at g3
        cases g3; rfl
      subst eC
      subst g4
      refine ⟨_, h1, a, dx, fl, rfl, g1, lookup_none z, ht _ ⟨B, ρ, st, ?_⟩⟩
      unfold lendX at o
      refine (OutX.bind (OutX.bind o)).mono fun as ρ' _ q vs H' ⟨S, F, A, b, y, ao, n1, n2⟩ => lend_core ⟨S, F, A, b, y, .sl hi h1 ao, n1, n2⟩ q
  · exact o.elim
theorem vx_meth {mn : Str} {i n : Nat} (C : CalBM X.prog X.w X.K X.mg X.base c mn ps J k m) (hr : Room k' X.A) (tk : Takes X W) (pv : PE X (.Name x p1) (tVar i)) (ha : VXA X W own (e :: es) fs) (hi : i ∈ own := by decide) (hk : k ≤ k' := by decide) (hn : ps.length = n := by rfl)
    (hst : starEach (e :: es) X.env = (false, eval e X.env) :: starEach es X.env := by rfl) (hpl : (backTo pos (starEach es X.env)).any (·.1) = false := by rfl) {pl : Sem Bool}
    (ht : eval (.Call (.Attribute (.Name x p1) mn apos) (e :: es) [] pos) X.env = (do
      let ov ← eval (.Name x p1) X.env
      standAt apos.atName
      let (f, first) ← holding [ov] (getMethod ov mn pl)
      callWith pos f first (backTo pos (starEach (e :: es) X.env)) (backToKw pos (keywordEach [] X.env))) := by rfl) :
    VX X W own (.Call (.Attribute (.Name x p1) mn apos) (e :: es) [] pos) (methX c mn n J m i fs) := by
  subst hn
  obtain ⟨C, f, fd, h1, h2, h3, h4, h5⟩ := C
  exact ⟨peW (pe_methS' (pl := pl) pv h2 h3 h5 (hr.mono hk) h4 (fun σ => passAt tk σ) ha.pa hst hpl ht) fun σ H Q ⟨B, ρ, st, o⟩ => meth_core hi h1 st (fun R z => z) o⟩
theorem vx_meth0 {mn : Str} {i n : Nat} (C : CalBM X.prog X.w X.K X.mg X.base c mn ps J k m) (hr : Room k' X.A) (tk : Takes X W) (pv : PE X (.Name x p1) (tVar i)) (hi : i ∈ own := by decide) (hk : k ≤ k' := by decide) (hn : ps.length = n := by rfl) {pl : Sem Bool}
    (ht : eval (.Call (.Attribute (.Name x p1) mn apos) [] [] pos) X.env = (do
      let ov ← eval (.Name x p1) X.env
      standAt apos.atName
      let (f, first) ← holding [ov] (getMethod ov mn pl)
      callWith pos f first (backTo pos (starEach [] X.env)) (backToKw pos (keywordEach [] X.env))) := by rfl) :
    VX X W own (.Call (.Attribute (.Name x p1) mn apos) [] [] pos) (methX c mn n J m i nilXA) := by
  subst hn
  obtain ⟨C, f, fd, h1, h2, h3, h4, h5⟩ := C
  exact ⟨peW (pe_meth0S' (pl := pl) pv h2 h3 h5 (hr.mono hk) h4 (fun σ => passAt tk σ) ht) fun σ H Q ⟨B, ρ, st, o⟩ => meth_core hi h1 st (fun R ⟨B, ρ, ⟨S, F, b, y⟩, o⟩ => o [] H ⟨S, F, [], b, y, .nil, (fun _ z => nomatch z), fun _ _ _ z => nomatch z⟩) o⟩
end
end Vs

namespace Vs
open PySem PySem.Spec PyProof.Rows L2

/-! ### statements over readings that may change slots -/
def bindX {α : Type} (x : RX α) (k : α → Env → Sr) : Sr := match x with
  | .ok a ρ => k a ρ
  | .ex c ρ => .ex c ρ
  | .st => .st
@[simp] theorem bindX_ok {α : Type} (a : α) (ρ : Env) (k : α → Env → Sr) : bindX (.ok a ρ) k = k a ρ := rfl
@[simp] theorem bindX_ex {α : Type} (c : Str) (ρ : Env) (k : α → Env → Sr) : bindX (.ex c ρ) k = .ex c ρ := rfl
@[simp] theorem bindX_st {α : Type} (k : α → Env → Sr) : bindX (.st) k = .st := rfl
section
variable {K : PySem.W.Frag} {mg : Str → Option Value} {W : WX} {own own' : List Nat} {ol : Ol} {B : Hp} {D : Ends} {ρ : Env} {σ : L2.St} {H : Hp} {v : V} {d : Vs.D}
theorem SEnd.outX {α : Type} {x : RX α} {k : α → Env → Sr} (pn : Pin ol.P σ) (we : ∀ i ∈ ol.e, i ∈ own) (h : SEnd K mg W own' ol B D (bindX x k)) : OutX K mg W own B σ x fun a ρ => SEnd K mg W own' ol B D (k a ρ) := by
  cases x with
  | st => exact h
  | ok a ρ => exact h
  | ex c ρ => obtain ⟨C, h1, h2⟩ := h; exact ⟨C, h1, fun H' s => h2 σ H' (s.weak we) pn⟩
theorem StaV.sta (h : StaV own B K ρ σ H v d) : Sta own B K ρ σ H := let ⟨S, F, _, b, y, _⟩ := h; ⟨S, F, b, y⟩
theorem StaV.weak (h : StaV own B K ρ σ H v d) (w : ∀ i ∈ own', i ∈ own) : StaV own' B K ρ σ H v d := by
  obtain ⟨S, F, A, b, y, f, n1, n2⟩ := h
  refine ⟨_, F, A, b.trans (ext_s _), y.weakX w, f, fun a ha => ?_, fun j m => n2 j (w j m)⟩
  obtain ⟨o, h1, h2⟩ := f.soft a ha
  refine ext_none (n1 a ha) (fun z => ?_) fun o' e => by rw [h1] at e; cases e; exact h2
  obtain ⟨j, hj, hz⟩ := List.mem_flatMap.mp z
  exact n2 j (List.mem_filter.mp hj).1 a ha hz
end
def exprX (f : Env → RX D) (ρ : Env) : Sr := bindX (f ρ) fun _ ρ => .nx ρ
def setX (i : Nat) (f : Env → RX D) (ρ : Env) : Sr := bindX (f ρ) fun d ρ => .nx (ρ.set i (some d))
def retB (f : Env → R D) (ρ : Env) : Sr := bindS (f ρ) ρ fun d => .rb d ρ
def retNB (ρ : Env) : Sr := .rb .non ρ
def retXB (f : Env → RX D) (ρ : Env) : Sr := bindX (f ρ) fun d ρ => .rb d ρ
def retX (f : Env → RX D) (ρ : Env) : Sr := bindX (f ρ) fun d _ => .rt d
def ifX (t : Env → RX Bool) (a b : Env → Sr) (ρ : Env) : Sr := bindX (t ρ) fun c ρ => if c = true then a ρ else b ρ
section
variable {X : Cx} {W : WX} {own own' : List Nat} {ol : Ol} {e c : Expr} {f : Env → RX D} {g : Env → R D} {t : Env → RX Bool} {a b : Env → Sr} {s1 s2 : List Stmt} {pos : Pos}
theorem vs_exprX (he : VX X W own e f) (hs : swapsWith e none pos.line X.env = pure false := by rfl) (we : ∀ i ∈ ol.e, i ∈ own := by first | decide | (dsimp only; decide)) : VS X W own own ol (.Expr e pos) (exprX f) :=
  ⟨psW (ps_expr he.pe hs) fun D σ H ⟨B, ρ, x, pn, q⟩ => ⟨B, ρ, x, (SEnd.outX pn we q).mono fun d ρ' _ q v H' z => q σ H' z.sta pn⟩⟩
theorem vs_setX (i : Nat) {x : Str} {pos' : Pos} (hN : X.N.Nodup) (hi : X.N[i]? = some x) (hx : Loc X.env.scope x) (he : VX X W own e f) (hs : swapsWith e (some (.Name x pos')) pos.line X.env = pure false := by rfl) (hf : X.fn x = true ∨ X.env.scope.names.lookup x = some .local := by first | exact .inl rfl | exact .inr rfl | assumption) (we : ∀ i ∈ ol.e, i ∈ own := by first | decide | (dsimp only; decide)) (hp : ol.P i = none := by rfl) :
    VS X W own (i :: own) ol (.Assign [.Name x pos'] e pos) (setX i f) := ⟨psW (ps_set hN hi hx he.pe hs hf) fun D σ H ⟨B, ρ, x, pn, q⟩ => ⟨B, ρ, x, (SEnd.outX pn we q).mono fun d ρ' _ q v H' ⟨S, F, A, b, y, f, n1, n2⟩ =>
      q _ _ ⟨S, _, b, y.put2 f (fun a ha => ⟨n1 a ha, fun j m => n2 j m a ha⟩) i⟩ (pn.set hp)⟩⟩
theorem vs_retB (he : VG X W e g) (we : ∀ i ∈ ol.e, i ∈ own := by first | decide | (dsimp only; decide)) (wr : ∀ i ∈ ol.r, i ∈ own := by first | decide | (dsimp only; decide)) : VS X W own own' ol (.Return (some e) pos) (retB g) :=
  ⟨psW (ps_ret he.pe) fun D σ H ⟨B, ρ, x, pn, q⟩ => ⟨ρ, x.env, (SEnd.out x pn we q).mono fun d _ q v H' A s fu n => q v σ H' ((x.staV s fu n).weak wr) pn⟩⟩
theorem vs_retNB (wr : ∀ i ∈ ol.r, i ∈ own := by first | decide | (dsimp only; decide)) : VS X W own own' ol (.Return none pos) retNB :=
  ⟨psW ps_retN fun D σ H ⟨B, ρ, x, pn, q⟩ => q .non σ H ((x.staV (Same.refl _) .non (fun _ z => nomatch z)).weak wr) pn⟩
theorem vs_retXB (he : VX X W own e f) (we : ∀ i ∈ ol.e, i ∈ own := by first | decide | (dsimp only; decide)) (wr : ∀ i ∈ ol.r, i ∈ own := by first | decide | (dsimp only; decide)) : VS X W own own' ol (.Return (some e) pos) (retXB f) :=
  ⟨psW (ps_ret he.pe) fun D σ H ⟨B, ρ, x, pn, q⟩ => ⟨B, ρ, x, (SEnd.outX pn we q).mono fun d ρ' _ q v H' z => q v σ H' (z.weak wr) pn⟩⟩
theorem vs_retX (he : VX X W own e f) (we : ∀ i ∈ ol.e, i ∈ own := by first | decide | (dsimp only; decide)) : VS X W own own' ol (.Return (some e) pos) (retX f) :=
  ⟨psW (ps_ret he.pe) fun D σ H ⟨B, ρ, x, pn, q⟩ => ⟨B, ρ, x, (SEnd.outX pn we q).mono fun d ρ' _ q v H' ⟨S, F, A, b, y, f, n1, n2⟩ => q v H' A (b.trans y.sub) f fun a m => b.free (n1 a m)⟩⟩
theorem vs_ifX (hc : VXT X W own c t) (h1 : VSs X W own own' ol s1 a) (h2 : VSs X W own own' ol s2 b) (we : ∀ i ∈ ol.e, i ∈ own := by first | decide | (dsimp only; decide)) : VS X W own own' ol (.If c s1 s2 pos) (ifX t a b) :=
  ⟨psW (ps_if hc.pt h1.ps h2.ps) fun D σ H ⟨B, ρ, x, pn, q⟩ => ⟨B, ρ, x, (SEnd.outX pn we q).mono fun k ρ' _ q H' z => by
    cases k with
    | true => exact ⟨B, ρ', z, pn, q⟩
    | false => exact ⟨B, ρ', z, pn, q⟩⟩⟩
/-- a slot's list handed out by a def that is lent others -/
def retVB (i : Nat) (ρ : Env) : Sr := match ρ[i]? with
  | some (some d) => .rb d (ρ.set i none)
  | _ => .st
theorem vs_retVB (i : Nat) {x : Str} {pos' : Pos} (p : PE X (.Name x pos') (tVar i)) (hi : i ∈ own := by decide) (hni : i ∉ ol.r := by first | decide | (dsimp only; decide)) (wr : ∀ j ∈ ol.r, j ∈ own := by first | decide | (dsimp only; decide)) :
    VS X W own own' ol (.Return (some (.Name x pos')) pos) (retVB i) := ⟨psW (ps_ret p) fun D σ H ⟨B, ρ, x, pn, q⟩ => by
  unfold retVB at q
  split at q
  · rename_i d e
    obtain ⟨S, F, b, y⟩ := x
    obtain ⟨v, h1, h2, _⟩ := y.val i d e
    have w : ∀ j, j ∈ own.filter (fun j => decide (j ≠ i)) ↔ j ∈ own ∧ j ≠ i := fun j => by rw [List.mem_filter]; simp
    have z : StaV (own.filter fun j => decide (j ≠ i)) B X.K (ρ.set i none) σ H v d := ⟨S, F, F i, b, y.drop w, h2 hi, fun a ha => (y.out i hi a ha).1, fun j m a ha => y.dis i hi j ((w j).mp m).1 (Ne.symm ((w j).mp m).2) a ha⟩
    exact ⟨v, h1, q v σ H (z.weak fun j m => (w j).mpr ⟨wr j m, fun e => hni (e ▸ m)⟩) pn⟩
  · exact q.elim⟩
/-! ### tests -/
def boolX (f : Env → RX D) (ρ : Env) : RX Bool := (f ρ).bind fun d ρ => match d with | .bl b => .ok b ρ | _ => .st
def andX (t u : Env → RX Bool) (ρ : Env) : RX Bool := (t ρ).bind fun b ρ => if b = true then u ρ else .ok false ρ
def orX (t u : Env → RX Bool) (ρ : Env) : RX Bool := (t ρ).bind fun b ρ => if b = true then .ok true ρ else u ρ
def notX (t : Env → RX Bool) (ρ : Env) : RX Bool := (t ρ).bind fun b ρ => .ok (!b) ρ
theorem vxt_val (h : VX X W own e f) (he : ∀ whole, isTrue e X.env whole = (do let v ← whole; standAt e.pos; holding [v] (truthy v)) := by intro _; rfl) : VXT X W own e (boolX f) :=
  ⟨ptW (pt_val h.pe he) fun σ H Q ⟨B, ρ, x, o⟩ => ⟨B, ρ, x, (OutX.bind o).mono fun d ρ' _ q v H' z => by
    have zs := z.sta
    obtain ⟨S, F, A, b, y, f, n1, n2⟩ := z
    cases f with
    | bl k => exact ⟨k, rfl, q H' zs⟩
    | _ => exact q.elim⟩⟩
theorem vxt_not (h : VXT X W own e t) : VXT X W own (.UnaryOp .Not e pos) (notX t) := ⟨ptW (pt_not h.pt) fun σ H Q ⟨B, ρ, x, o⟩ => ⟨B, ρ, x, (OutX.bind o).mono fun d ρ' _ q H' z => q H' z⟩⟩
theorem VXW.vxt (h : VXW X W own e t) : VXT X W own e t := ⟨h.pw.pt⟩
theorem vxw_and1 (h : VXT X W own e t) : VXW X W own (.BoolOp .And [e] pos) t := ⟨pw_and1 h.pt⟩
theorem vxw_or1 (h : VXT X W own e t) : VXW X W own (.BoolOp .Or [e] pos) t := ⟨pw_or1 h.pt⟩
theorem vxw_and {u : Env → RX Bool} {rest : List Expr} (ha : VXT X W own e t) (hb : VXW X W own (.BoolOp .And (c :: rest) pos) u) : VXW X W own (.BoolOp .And (e :: c :: rest) pos) (andX t u) :=
  ⟨pwW (pw_and ha.pt hb.pw) fun σ H Q ⟨B, ρ, x, o⟩ => ⟨B, ρ, x, (OutX.bind o).mono fun k ρ' _ q H' z => by
    cases k with
    | true => exact ⟨B, ρ', z, q⟩
    | false => exact q H' z⟩⟩
theorem vxw_or {u : Env → RX Bool} {rest : List Expr} (ha : VXT X W own e t) (hb : VXW X W own (.BoolOp .Or (c :: rest) pos) u) : VXW X W own (.BoolOp .Or (e :: c :: rest) pos) (orX t u) :=
  ⟨pwW (pw_or ha.pt hb.pw) fun σ H Q ⟨B, ρ, x, o⟩ => ⟨B, ρ, x, (OutX.bind o).mono fun k ρ' _ q H' z => by
    cases k with
    | true => exact q H' z
    | false => exact ⟨B, ρ', z, q⟩⟩⟩
end

/-! ### try: body, except h: suite, else: more -/
def noexS : Sr → Sr
  | .ex _ _ => .st
  | r => r
def tryES (tb : List (Str × Bool)) (b s o : Env → Sr) (ρ : Env) : Sr := match b ρ with
  | .nx ρ' => o ρ'
  | .ex c ρ' => (match tb.lookup c with
    | some true => noexS (s ρ')
    | some false => .ex c ρ'
    | none => .st)
  | r => r
section
variable {X : Cx} {W : WX} {own own' own1 own2 own3 oe : List Nat} {ol : Ol} {b s o : Env → Sr} {tb : List (Str × Bool)} {pos : Pos}
theorem vs_tryE {h : Str} {body suite orelse : List Stmt} {b₀ : Stmt} {np pos' : Pos} (E : ExM X.K X.mg h tb) (hs : X.stack = X.env :: X.outer) (hf : X.env.frame = some X.env.locals) (hg : Gl X h) (tk : Takes X W)
    (hb : ∀ (W : WX) (pn : List (Addr × Obj)) (xe : Value → Shared → Prop), Takes (X.tr pn xe) W → PassesOwn (model X.prog X.w) X.A X.env xe → VSs (X.tr pn xe) W own own1 { ol with e := oe } body b)
    (hsu : ∀ (a : Addr) (ob : Obj) (pn : List (Addr × Obj)), VSs (X.suite a ((a, ob) :: pn)) (fun _ _ _ _ => False) oe own2 { ol with e := [] } (b₀ :: suite) s)
    (ho : VSs X W own1 own3 ol orelse o)
    (w2 : ∀ i ∈ own', i ∈ own2 := by decide) (w3 : ∀ i ∈ own', i ∈ own3 := by decide) (w4 : ∀ j ∈ ol.e, j ∈ oe := by first | decide | (dsimp only; decide)) (hdb : (h == ("__debug__" : Str)) = false := by decide) :
    VS X W own own' ol (.Try body [.ExceptHandler (some (.Name h np)) none (b₀ :: suite) pos'] orelse [] pos) (tryES tb b s o) := by
  obtain ⟨Ch, eh, E⟩ := E.ex
  refine ⟨psW (ps_try_onlyE (c := .ref Ch) (Wout := W) (u := tS X.K X.mg W own1 own3 ol o) (tb := fun W => tS X.K X.mg W own own1 { ol with e := oe } b)
    (ts := fun a cls d => fun D σ H => tS X.K X.mg (fun _ _ _ _ => False) oe own2 { ol with e := [] } s D σ H) ho.ps hs hf ⟨hg, hdb, .inl eh⟩ tk
    (fun W pn xe tk po => (hb W pn xe tk po).ps) (fun a ob cls d pn hz hf => (hsu a ob pn).ps)) fun D σ H ⟨B, ρ, x, pn, q⟩ => ⟨B, ρ, x, pn, ?_⟩⟩
  unfold tryES at q
  cases e : b ρ with
  | st => rw [e] at q; exact q.elim
  | nx ρ' => rw [e] at q; exact fun σ H y pz => ⟨B, ρ', y, pz, q.weak w3⟩
  | rt d => rw [e] at q; exact q
  | rb d ρ' => rw [e] at q; exact q
  | bk ρ' => rw [e] at q; exact q
  | ct ρ' => rw [e] at q; exact q
  | ex c ρ' =>
    rw [e] at q
    simp only at q
    cases et : tb.lookup c with
    | none => rw [et] at q; exact q.elim
    | some k =>
      rw [et] at q
      cases k with
      | false =>
        obtain ⟨C, hC, q⟩ := q
        obtain ⟨C2, h2, e2⟩ := E c false et
        rw [hC] at h2
        cases h2
        exact ⟨C, hC, fun σ' H' y pz => ⟨false, e2, (fun z => nomatch z), fun _ => q σ' H' (y.weak w4) pz⟩⟩
      | true =>
        simp only at q
        obtain ⟨C, hC, eC⟩ := E c true et
        refine ⟨C, hC, fun σ' H' y pz => ⟨true, eC, fun _ a ha => ⟨B, ρ', y, pz, ?_⟩, (fun z => nomatch z)⟩⟩
        cases es : s ρ' with
        | st => rw [es] at q; exact q.elim
        | nx ρ2 => rw [es] at q; exact (show SEnd X.K X.mg W own' ol B D (.nx ρ2) from q).weak w2
        | rt d => rw [es] at q; exact q
        | rb d ρ2 => rw [es] at q; exact q
        | bk ρ2 => rw [es] at q; exact q
        | ct ρ2 => rw [es] at q; exact q
        | ex c2 ρ2 => rw [es] at q; exact q.elim
end

/-! ### fields -/
def idxS : List Str → Str → Option Nat
  | [], _ => none
  | k :: ks, f => if k = f then some 0 else (idxS ks f).map (· + 1)
def lookD (ks : List Str) (ds : List D) (f : Str) : Option D := (idxS ks f).bind fun j => ds[j]?
/-- the table tb: by class the fields that are no class's own -/
def fldOk (tb : List (Str × List Str)) (c f : Str) : Prop := f ∈ (tb.lookup c).getD []
instance (tb : List (Str × List Str)) (c f : Str) : Decidable (fldOk tb c f) := inferInstanceAs (Decidable (_ ∈ _))
def fldD (tb : List (Str × List Str)) (f : Str) : D → R D
  | .obj c ks ds => if fldOk tb c f then (match lookD ks ds f with | some d => .ok d | none => .st) else .st
  | _ => .st
def fldE (tb : List (Str × List Str)) (nm : Str) (f : Env → R D) (ρ : Env) : R D := (f ρ).bind (fldD tb nm)
structure FT (K : PySem.W.Frag) (tb : List (Str × List Str)) : Prop where
  ok : ∀ c f, fldOk tb c f → ∃ C, PySem.W.nsIn K mainGlobals c = some (some (.ref C)) ∧ Cls K C ∧ NoAttr K C f
theorem idxS_fs {α : Type} : ∀ {fs : List (Str × α)} {f : Str} {j : Nat}, idxS (fs.map (·.1)) f = some j → ∃ z, (fs.map (·.2))[j]? = some z ∧ fs.lookup f = some z
  | [], f, j, h => by cases h
  | (k, v) :: fs, f, j, h => by
    rw [List.map_cons, idxS] at h
    split at h
    · rename_i e
      cases h
      have e : k = f := e
      subst e
      exact ⟨v, rfl, by simp⟩
    · rename_i e
      have e : ¬ k = f := e
      cases h2 : idxS (fs.map (·.1)) f with
      | none => rw [h2] at h; cases h
      | some i =>
        rw [h2] at h
        cases h
        obtain ⟨z, h3, h4⟩ := idxS_fs h2
        refine ⟨z, by simpa using h3, ?_⟩
        rw [List.lookup_cons, show (f == k) = false by simpa using fun w : f = k => e w.symm]
        exact h4
theorem idxS_none {ks : List Str} {f : Str} (h : idxS ks f = none) : f ∉ ks := by
  induction ks with
  | nil => exact fun z => nomatch z
  | cons k ks ih =>
    rw [idxS] at h
    split at h
    · cases h
    · rename_i e
      intro z
      rcases List.mem_cons.mp z with z | z
      · exact e z.symm
      · cases h2 : idxS ks f with
        | none => exact ih h2 z
        | some i => rw [h2] at h; cases h
theorem idxS_lt {ks : List Str} {f : Str} {j : Nat} (h : idxS ks f = some j) : j < ks.length := by
  induction ks generalizing j with
  | nil => cases h
  | cons k ks ih =>
    rw [idxS] at h
    split at h
    · cases h; simp
    · cases h2 : idxS ks f with
      | none => rw [h2] at h; cases h
      | some i =>
        rw [h2] at h
        cases h
        have := ih h2
        simp; omega
/-- an object's field put -/
def setF (nm : Str) (d : D) (c : Str) (ks : List Str) (ds : List D) : D := match idxS ks nm with
  | some j => .obj c ks (ds.set j d)
  | none => .obj c (ks ++ [nm]) (ds ++ [d])
theorem putF_some {nm : Str} {u : V} : ∀ {fs : List (Str × V)} {j : Nat}, idxS (fs.map (·.1)) nm = some j → (putF nm u fs).map (·.1) = fs.map (·.1) ∧ (putF nm u fs).map (·.2) = (fs.map (·.2)).set j u
  | [], j, h => by cases h
  | (k, v) :: fs, j, h => by
    rw [List.map_cons, idxS] at h
    rw [putF]
    split at h
    · rename_i e
      cases h
      rw [if_pos e]
      exact ⟨rfl, rfl⟩
    · rename_i e
      rw [if_neg e]
      cases h2 : idxS (fs.map (·.1)) nm with
      | none => rw [h2] at h; cases h
      | some i =>
        rw [h2] at h
        cases h
        obtain ⟨h3, h4⟩ := putF_some h2
        exact ⟨by rw [List.map_cons, h3, List.map_cons], by rw [List.map_cons, h4, List.map_cons]; rfl⟩
theorem putF_none {nm : Str} {u : V} : ∀ {fs : List (Str × V)}, idxS (fs.map (·.1)) nm = none → (putF nm u fs).map (·.1) = fs.map (·.1) ++ [nm] ∧ (putF nm u fs).map (·.2) = fs.map (·.2) ++ [u]
  | [], h => ⟨rfl, rfl⟩
  | (k, v) :: fs, h => by
    rw [List.map_cons, idxS] at h
    rw [putF]
    split at h
    · cases h
    · rename_i e
      rw [if_neg e]
      cases h2 : idxS (fs.map (·.1)) nm with
      | some i => rw [h2] at h; cases h
      | none =>
        obtain ⟨h3, h4⟩ := putF_none (u := u) h2
        exact ⟨by rw [List.map_cons, h3, List.map_cons]; rfl, by rw [List.map_cons, h4, List.map_cons]; rfl⟩
theorem rds_look {K : PySem.W.Frag} {H : Hp} {fs : List (Str × V)} {ds : List D} {f : Str} {d : D} (r : Rds K H (fs.map (·.2)) ds) (h : lookD (fs.map (·.1)) ds f = some d) : ∃ v, fs.lookup f = some v ∧ Rd K H v d := by
  unfold lookD at h
  cases hj : idxS (fs.map (·.1)) f with
  | none => rw [hj] at h; cases h
  | some j =>
    rw [hj] at h
    obtain ⟨v, h1, h2⟩ := r.get (show ds[j]? = some d from h)
    obtain ⟨z, h3, h4⟩ := idxS_fs hj
    rw [h1] at h3
    cases h3
    exact ⟨_, h4, h2⟩
theorem FT.at {K : PySem.W.Frag} {tb : List (Str × List Str)} (T : FT K tb) {c f : Str} (h : fldOk tb c f) {C : Addr} (n : NameK K c C) : Cls K C ∧ NoAttr K C f := by
  obtain ⟨C', h1, h2, h3⟩ := T.ok c f h
  have n : PySem.W.nsIn K mainGlobals c = some (some (.ref C)) := n
  rw [h1] at n
  cases n
  exact ⟨h2, h3⟩
section
variable {X : Cx} {W : WX} {own own' : List Nat} {ol : Ol} {a e : Expr} {f fe : Env → R D} {tb : List (Str × List Str)} {nm : Str} {pos pos' : Pos} {i : Nat} {fp : Env → R (List Nat)}
theorem ve_fld (T : FT X.K tb) (ha : VE X W a f) (hb : attributeBase a nm X.env (eval a X.env) = eval a X.env := by rfl) : VE X W (.Attribute a nm pos) (fldE tb nm f) :=
  ⟨peW (pe_fld ha.pe hb) fun σ H Q ⟨ρ, re, o⟩ => ⟨ρ, re, (Out.bind o).mono fun d _ q v H1 s1 r1 => by
    cases r1 with
    | @obj a C dx fs c ks ds g1 g2 g3 g4 g5 =>
      have q : Out X.mg W σ H (if fldOk tb c nm then (match lookD ks ds nm with | some d => .ok d | none => .st) else .st) _ := q
      by_cases z : fldOk tb c nm
      rotate_left
      · rw [if_neg z] at q; exact q.elim
      rw [if_pos z] at q
      subst g4
      cases hl : lookD (fs.map (·.1)) ds nm with
      | none => rw [hl] at q; exact q.elim
      | some d =>
        rw [hl] at q
        obtain ⟨v, h1, h2⟩ := rds_look g5 hl
        obtain ⟨k1, k2⟩ := T.at z g3
        exact ⟨a, C, dx, fs, v, rfl, g1, k1, k2, h1, q v H1 s1 h2⟩
    | _ => exact q.elim⟩⟩
theorem vp_fld (T : FT X.K tb) (ha : VP X W own a f) (hb : attributeBase a nm X.env (eval a X.env) = eval a X.env := by rfl) : VP X W own (.Attribute a nm pos) (fldE tb nm f) :=
  ⟨peW (pe_fld ha.pe hb) fun σ H Q ⟨ρ, S, F, st, o⟩ => ⟨ρ, S, F, st, (Out.bind o).mono fun d _ q v H1 A s1 n1 r1 => by
    cases r1 with
    | @obj a C dx fs c ks ds g1 g2 g3 g4 g5 =>
      have q : Out X.mg W σ H (if fldOk tb c nm then (match lookD ks ds nm with | some d => .ok d | none => .st) else .st) _ := q
      by_cases z : fldOk tb c nm
      rotate_left
      · rw [if_neg z] at q; exact q.elim
      rw [if_pos z] at q
      subst g4
      cases hl : lookD (fs.map (·.1)) ds nm with
      | none => rw [hl] at q; exact q.elim
      | some d =>
        rw [hl] at q
        obtain ⟨v, h1, h2⟩ := rds_look g5 hl
        obtain ⟨k1, k2⟩ := T.at z g3
        exact ⟨a, C, dx, fs, v, rfl, (ext_h (st.sub.trans s1) A).mv g1, k1, k2, h1, q v H1 A s1 n1 h2⟩
    | _ => exact q.elim⟩⟩
def fldP (tb : List (Str × List Str)) (i : Nat) (fp : Env → R (List Nat)) (nm : Str) (ρ : Env) : R (List Nat) := (fp ρ).bind fun p => match atP i p ρ with
  | some (.obj c ks ds) => if fldOk tb c nm then (match idxS ks nm with | some j => .ok (p ++ [j]) | none => .st) else .st
  | _ => .st
theorem vl_fld (T : FT X.K tb) (ha : VL X W own i a fp) (hb : attributeBase a nm X.env (eval a X.env) = eval a X.env := by rfl) : VL X W own i (.Attribute a nm pos) (fldP tb i fp nm) :=
  ⟨peW (pe_fld ha.pe hb) fun σ H Q ⟨ρ, S, F, st, hi, o⟩ => ⟨ρ, S, F, st, hi, (Out.bind (show Out X.mg W σ H ((fp ρ).bind _) _ from o)).mono fun p _ q => by
    cases ha : atP i p ρ with
    | none => rw [ha] at q; exact q.elim
    | some d0 =>
      rw [ha] at q
      cases d0 with
      | obj c ks ds =>
        obtain ⟨d, hd, hg⟩ := atP_some ha
        have q1 : Out X.mg W σ H (if fldOk tb c nm then (match idxS ks nm with | some j => R.ok (p ++ [j]) | none => .st) else .st) _ := q
        by_cases z : fldOk tb c nm
        rotate_left
        · rw [if_neg z] at q1; exact q1.elim
        rw [if_pos z] at q1
        cases hj : idxS ks nm with
        | none => rw [hj] at q1; exact q1.elim
        | some j =>
          rw [hj] at q1
          refine ⟨⟨d, _, hd, hg⟩, fun v w H1 hv s1 nv => ?_⟩
          obtain ⟨v', w', B, e1, e2, e3, _⟩ := st.place hi hd hg
          rw [hv] at e1
          cases e1
          have ew := navH_fun (navH_mono s1 e2) nv
          subst ew
          cases e3 with
          | @obj pa C dx fs _ _ _ A1 g1 g2 g3 g4 g5 _ _ _ =>
            subst g4
            obtain ⟨zv, h1, h2⟩ := idxS_fs hj
            obtain ⟨k1, k2⟩ := T.at z g3
            have q2 : Out X.mg W σ H (R.ok (p ++ [j])) _ := q1
            obtain ⟨_, q⟩ := q2
            exact ⟨pa, C, dx, fs, zv, rfl, s1.mv g1, k1, k2, h2, q v zv H1 hv s1 (navH_app nv ⟨pa, zv, rfl, .inr ⟨C, dx, fs, s1.mv g1, h1⟩, rfl⟩)⟩
      | _ => exact q.elim⟩⟩
/-- an object at a place takes a field -/
theorem put_obj {S H : Hp} {F : Nat → List Addr} {ρ : Env} {σ : L2.St} {p : List Nat} {c : Str} {ks : List Str} {ds : List D} (y : Stx own X.K S F ρ σ H) (hi : i ∈ own) (ha : atP i p ρ = some (.obj c ks ds)) :
    (∃ d e, ρ[i]? = some (some d) ∧ getP p d = some e) ∧ ∃ v a C dx fs, σ[i]? = some (some v) ∧ navH H p v (.ref a) ∧ H a = some (.ins C dx fs) ∧ NameK X.K c C ∧ ks = fs.map (·.1) ∧ Rds X.K H (fs.map (·.2)) ds ∧
      ∀ (S1 H1 : Hp) (F1 : Nat → List Addr) (u : V) (d : D) (Au : List Addr) (nm : Str), Stx own X.K S1 F1 ρ σ H1 → Same H H1 → Fu X.K H1 u d Au → (∀ x ∈ Au, S1 x = none ∧ ∀ j ∈ own, x ∉ F1 j) →
        ∃ d' F', putP i p (setF nm d c ks ds) ρ = .nx (ρ.set i (some d')) ∧ Stx own X.K S1 F' (ρ.set i (some d')) σ (upd H1 a (.ins C dx (putF nm u fs))) := by
  obtain ⟨d0, hd, hg⟩ := atP_some ha
  obtain ⟨v, w, B, e1, e2, e3, e4, _⟩ := y.place hi hd hg
  cases e3 with
  | @obj a C dx fs _ _ _ A1 g1 g2 g3 g4 g5 g6 g7 g8 =>
    subst g4
    refine ⟨⟨d0, _, hd, hg⟩, v, a, C, dx, fs, e1, e2, g1, g3, rfl, g5.rd, fun S1 H1 F1 u d Au nm y1 s1 fu nu => ?_⟩
    obtain ⟨v', w', B', k1, k2, k3, k4, k5⟩ := y1.place hi hd hg
    rw [e1] at k1
    cases k1
    have ew := navH_fun (navH_mono s1 e2) k2
    subst ew
    cases k3 with
    | @obj _ C' dx' fs' _ _ _ A2 q1 q2 q3 q4 q5 q6 q7 q8 =>
      have ee := s1.mv g1
      rw [q1] at ee
      cases ee
      have ns : ¬ Stt (.ins C dx (putF nm u fs)) := fun z => (show False from z)
      have hao : ∃ o, H1 a = some o ∧ ¬ Stt o := ⟨_, q1, fun z => (show False from z)⟩
      have ma : a ∈ F1 i := (k4 a List.mem_cons_self).2.1
      have naU : a ∉ Au := fun z => (nu a z).2 i hi ma
      have offA2 : ∀ x ∈ A2, x ∉ Au := fun x hx z => (nu x z).2 i hi (k4 x (List.mem_cons_of_mem _ (List.mem_cons_of_mem _ hx))).2.1
      have nxU : dx ∉ Au := fun z => (nu dx z).2 i hi (k4 dx (List.mem_cons_of_mem _ List.mem_cons_self)).2.1
      have fin : ∀ (ds' : List D) (A3 : List Addr), Fus X.K H1 ((putF nm u fs).map (·.2)) ds' A3 → (∀ x ∈ A3, x ∈ A2 ∨ x ∈ Au) → ∃ d' F', setP p (.obj c ((putF nm u fs).map (·.1)) ds') d0 = some d' ∧ Stx own X.K S1 F' (ρ.set i (some d')) σ (upd H1 a (.ins C dx (putF nm u fs))) := fun ds' A3 f3 m3 => by
        have na3 : a ∉ A3 := fun z => (m3 a z).elim q6 naU
        have nx3 : dx ∉ A3 := fun z => (m3 dx z).elim q7 nxU
        refine k5 a (.ins C dx (putF nm u fs)) _ (a :: dx :: A3) List.mem_cons_self ns (.obj upd_same ((upd_ne fun z => q8 z.symm).trans q2) q3 rfl (f3.at (fun x hx => upd_ne fun z => na3 (z ▸ hx)) fun b o st _ hs => upd_stt hao st hs) na3 nx3 q8) fun x hx => ?_
        rcases List.mem_cons.mp hx with z | z
        · exact .inl (z ▸ List.mem_cons_self)
        · rcases List.mem_cons.mp z with z | z
          · exact .inl (z ▸ List.mem_cons_of_mem _ List.mem_cons_self)
          · rcases m3 x z with z | z
            · exact .inl (List.mem_cons_of_mem _ (List.mem_cons_of_mem _ z))
            · exact .inr (nu x z)
      unfold setF putP
      rw [hd]
      simp only
      cases hj : idxS (fs.map (·.1)) nm with
      | some j =>
        obtain ⟨p1, p2⟩ := putF_some (u := u) hj
        obtain ⟨A3, f3, m3⟩ := Fus.set (A := A2) (ds := ds) (vs := fs.map (·.2)) fu q5 (fun x hx hA => offA2 x hA hx) j
        obtain ⟨d', F', z1, z2⟩ := fin (ds.set j d) A3 (by rw [p2]; exact f3) m3
        rw [p1] at z1
        exact ⟨d', F', by simp only [z1], z2⟩
      | none =>
        obtain ⟨p1, p2⟩ := putF_none (u := u) hj
        obtain ⟨d', F', z1, z2⟩ := fin (ds ++ [d]) (A2 ++ (Au ++ [])) (by rw [p2]; exact q5.app (.cons fu .nil fun _ _ z => nomatch z) fun x hx hb => by rw [List.append_nil] at hb; exact offA2 x hx hb) fun x hx => by
          rw [List.append_nil] at hx
          exact List.mem_append.mp hx
        rw [p1] at z1
        exact ⟨d', F', by simp only [z1], z2⟩
def fldS (tb : List (Str × List Str)) (i : Nat) (fp : Env → R (List Nat)) (nm : Str) (fe : Env → R D) (ρ : Env) : Sr := bindS (fe ρ) ρ fun d => bindS (fp ρ) ρ fun p => match atP i p ρ with
  | some (.obj c ks ds) => if fldOk tb c nm ∧ ks.length < 1000 then putP i p (setF nm d c ks ds) ρ else .st
  | _ => .st
theorem vs_fld (T : FT X.K tb) (ha : VL X W own i a fp) (he : VG X W e fe) (hs : swapsWith e (some (.Attribute a nm pos')) pos.line X.env = pure false := by rfl) (hi : i ∈ own := by decide) (we : ∀ i ∈ ol.e, i ∈ own := by first | decide | (dsimp only; decide)) :
    VS X W own own ol (.Assign [.Attribute a nm pos'] e pos) (fldS tb i fp nm fe) := ⟨psW (ps_fld ha.pe he.pe hs) fun En σ H ⟨B, ρ, x, pn, q⟩ => by
  unfold fldS at q
  have q := SEnd.out x pn we q
  obtain ⟨S, F, b, y⟩ := x
  refine ⟨ρ, y.env, q.mono fun d _ q u H1 C s1 f1 n1 => ?_⟩
  have y1 := y.grow s1 (A := []) (fun _ z => nomatch z)
  have b1 := b.trans (ext_s (S := S) (H := H1) [])
  have fr := y.fresh s1 f1 n1
  have q := SEnd.out (own' := own) (σ := σ) (H := H1) ⟨_, _, b1, y1⟩ pn we q
  refine ⟨ρ, _, _, y1, hi, q.mono fun pt _ q => ?_⟩
  cases ha : atP i pt ρ with
  | none => rw [ha] at q; exact q.elim
  | some d0 =>
    rw [ha] at q
    cases d0 with
    | obj c ks ds =>
      have q1 : SEnd X.K X.mg W own ol B En (if fldOk tb c nm ∧ ks.length < 1000 then putP i pt (setF nm d c ks ds) ρ else .st) := q
      by_cases z : fldOk tb c nm ∧ ks.length < 1000
      rotate_left
      · rw [if_neg z] at q1; exact q1.elim
      rw [if_pos z] at q1
      obtain ⟨g0, v, pa, C0, dx, fs, e1, e2, e3, e4, e5, e6, e7⟩ := put_obj y1 hi ha
      refine ⟨g0, fun v' w H2 hv s2 nv => ?_⟩
      rw [e1] at hv
      cases hv
      have ew := navH_fun (navH_mono s2 e2) nv
      subst ew
      have y2 := y1.grow s2 (A := []) (fun _ z => nomatch z)
      obtain ⟨k1, k2⟩ := T.at z.1 e4
      obtain ⟨d', F', z1, z2⟩ := e7 _ H2 _ u d C nm y2 s2 (f1.same s2) fun x hx => ⟨by
        obtain ⟨o, g1, g2⟩ := f1.soft x hx
        exact ext_none (fr x hx).1 (fun z => nomatch z) fun o' e => by rw [s2.mv g1 (nst g2)] at e; cases e; exact g2, (fr x hx).2⟩
      rw [z1] at q1
      subst e5
      refine ⟨pa, C0, dx, fs, rfl, s2.mv e3, k1, k2, by have := z.2; rw [List.length_map] at this; exact this, q1 σ _ ⟨_, _, b1.trans (ext_s []), z2⟩ pn⟩
    | _ => exact q.elim⟩
def augFS (tb : List (Str × List Str)) (i : Nat) (fp : Env → R (List Nat)) (nm : Str) (fe : Env → R D) (ρ : Env) : Sr := bindS (fp ρ) ρ fun p => match atP i p ρ with
  | some (.obj c ks ds) => if fldOk tb c nm ∧ ks.length < 1000 then (match lookD ks ds nm with
    | some (.int x) => bindS (fe ρ) ρ fun y => (match y with
      | .int y => putP i p (setF nm (.int (x + y)) c ks ds) ρ
      | _ => .st)
    | _ => .st) else .st
  | _ => .st
/-- o.f += e, ints -/
theorem vs_augF {tpos : Pos} (T : FT X.K tb) (ha : VL X W own i a fp) (he : VE X W e fe) (hi : i ∈ own := by decide) (we : ∀ i ∈ ol.e, i ∈ own := by first | decide | (dsimp only; decide)) :
    VS X W own own ol (.AugAssign (.Attribute a nm tpos) .Add e pos) (augFS tb i fp nm fe) := ⟨psW (ps_fldaug ha.pe he.pe in_add) fun En σ H ⟨B, ρ, x, pn, q⟩ => by
  unfold augFS at q
  have q := SEnd.out x pn we q
  obtain ⟨S, F, b, y⟩ := x
  refine ⟨ρ, S, F, y, hi, q.mono fun pt _ q => ?_⟩
  cases ha : atP i pt ρ with
  | none => rw [ha] at q; exact q.elim
  | some d0 =>
    rw [ha] at q
    cases d0 with
    | obj c ks ds =>
      have q : SEnd X.K X.mg W own ol B En (if fldOk tb c nm ∧ ks.length < 1000 then (match lookD ks ds nm with
        | some (.int x) => bindS (fe ρ) ρ fun y => (match y with
          | .int y => putP i pt (setF nm (.int (x + y)) c ks ds) ρ
          | _ => .st)
        | _ => .st) else .st) := q
      by_cases z : fldOk tb c nm ∧ ks.length < 1000
      rotate_left
      · rw [if_neg z] at q; exact q.elim
      rw [if_pos z] at q
      obtain ⟨g0, v, pa, C0, dx, fs, e1, e2, e3, e4, e5, e6, e7⟩ := put_obj y hi ha
      subst e5
      cases hl : lookD (fs.map (·.1)) ds nm with
      | none => rw [hl] at q; exact q.elim
      | some d1 =>
        rw [hl] at q
        cases d1 with
        | int n =>
          refine ⟨g0, fun v' w H1 hv s1 nv => ?_⟩
          rw [e1] at hv
          cases hv
          have ew := navH_fun (navH_mono s1 e2) nv
          subst ew
          obtain ⟨uv, h1, h2⟩ := rds_look e6 hl
          cases h2
          obtain ⟨k1, k2⟩ := T.at z.1 e4
          have y1 := y.grow s1 (A := []) (fun _ z => nomatch z)
          have b1 := b.trans (ext_s (S := S) (H := H1) [])
          have q := SEnd.out (own' := own) (σ := σ) (H := H1) ⟨_, _, b1, y1⟩ pn we (show SEnd X.K X.mg W own ol B En (bindS (fe ρ) ρ _) from q)
          refine ⟨pa, C0, dx, fs, _, rfl, s1.mv e3, k1, k2, h1, ρ, y1.env, q.mono fun d _ q u H2 s2 r2 => ?_⟩
          cases d with
          | int m =>
            cases r2
            have y2 := y1.grow s2 (A := []) (fun _ z => nomatch z)
            obtain ⟨d', F', z1, z2⟩ := e7 _ H2 _ (.int (n + m)) (.int (n + m)) [] nm y2 (s1.trans s2) (.int _) (fun _ z => nomatch z)
            have q : SEnd X.K X.mg W own ol B En (putP i pt (setF nm (.int (n + m)) c (fs.map (·.1)) ds) ρ) := q
            rw [z1] at q
            refine ⟨n, m, rfl, rfl, dx, fs, s2.mv (s1.mv e3), by have := z.2; rw [List.length_map] at this; exact this, q σ _ ⟨_, _, b1.trans (ext_s []), z2⟩ pn⟩
          | _ => exact q.elim
        | _ => exact q.elim
    | _ => exact q.elim⟩
end

/-! ### objects made -/
section
variable {X : Cx} {W : WX} {e o : Expr} {es : List Expr} {fs : Env → R (List D)} {f : Env → R D} {c mn : Str} {p apos pos : Pos} {ps : List Str} {k k' n : Nat} {m : List D → RX D} {mr : List D → R D}
def tMakeS' (C : Addr) (sp : Sp) (E : L2.St → XK) (t : TA) : TE := fun σ H Q => t σ H fun vs H1 => ∀ x dx, H1 x = none → H1 dx = none → dx ≠ x →
  sp (.ref x :: vs) (upd (upd H1 dx (.own x)) x (.ins C dx [])) (fun v H2 => v = .non ∧ Q (.ref x) H2) (E σ)
theorem run_makeS' {CX : CXT} {C f : Addr} {fd : FuncData} {sp : Sp} {E : L2.St → XK} {pins : List (Addr × Obj)} {σ : L2.St} {H : Hp} {s : Shared} {Q : VK} {us : List Value} {vs : List V} (M : Mk X.K C f) (F : FnOk X.prog X.w X.K X.mg X.base CX k f fd ps sp) (hr : Room (k + 1) X.A) (hb : Binds X.K fd ps [])
    (hx : PassesAt CX X σ (E σ)) (I : Inv X pins σ H s) (r : Vals vs us)
    (h : ∀ x dx, H x = none → H dx = none → dx ≠ x → sp (.ref x :: vs) (upd (upd H dx (.own x)) x (.ins C dx [])) (fun v H2 => v = .non ∧ Q (.ref x) H2) (E σ)) :
    wpAny (model X.prog X.w) X.A (call (.ref C) us) (EP X pins σ Q) X.xe s := by
  have hq := h (s.heap.objs.size + 1) s.heap.objs.size (I.hok.fresh (Nat.le_succ _)) (I.hok.fresh (Nat.le_refl _)) (Nat.ne_of_lt (Nat.lt_succ_self _))
  have I2 := Inv.made (C := C) I
  have r2 : Vals (V.ref (s.heap.objs.size + 1) :: vs) (Value.ref (s.heap.objs.size + 1) :: us) := .cons rfl r
  have hl : (Value.ref (s.heap.objs.size + 1) :: us).length = ps.length := by
    have e := r2.length
    rw [F.len _ _ _ _ hq] at e
    exact e.symm
  have bb := hb _ (Value.ref (s.heap.objs.size + 1) :: us) I2.kIn (by rw [List.append_nil]; exact hl)
  rw [List.append_nil] at bb
  refine wpAny_call (make_map (f := f) I.kIn M.makes M.init (beq_iff_eq.mp M.fn) (codeAny_mono (F.run _ X.stack _ _ ⟨Value.ref (s.heap.objs.size + 1) :: us, []⟩ (Value.ref (s.heap.objs.size + 1) :: us) _ _ (E σ) (hr.make C us [])
    (I2.env0.make C us []) bb r2 hq) fun r s' hq' => ?_))
  cases r with
  | error e => exact hx pins _ _ e s' I2 hq'
  | ok fl =>
    cases fl with
    | ret u =>
      obtain ⟨v, H', I3, rv, ev, q3⟩ := I2.after hq'
      subst ev
      exact ⟨rv, ⟨V.ref (s.heap.objs.size + 1), H', I3, rfl, q3⟩⟩
    | next => exact False.elim hq'
    | brk => exact False.elim hq'
    | cont => exact False.elim hq'
theorem pe_makeS' {CX : CXT} {C f : Addr} {fd : FuncData} {sp : Sp} {E : L2.St → XK} {t : TA} (M : Mk X.K C f) (F : FnOk X.prog X.w X.K X.mg X.base CX k f fd ps sp) (hr : Room (k + 1) X.A) (hg : Gl X c) (hm : X.mg c = some (.ref C)) (hb : Binds X.K fd ps []) (hx : ∀ σ, PassesAt CX X σ (E σ))
    (ha : PA X (e :: es) t) (hdb : (c == ("__debug__" : Str)) = false := by decide) (he : starEach (e :: es) X.env = (false, eval e X.env) :: starEach es X.env := by rfl) (hpl : (backTo pos (starEach es X.env)).any (·.1) = false := by rfl) :
    PE X (.Call (.Name c p) (e :: es) [] pos) (tMakeS' C sp E t) := by
  refine ⟨fun pins s σ H Q I h => ?_⟩
  refine wpAny_Call_Name_kw (ld_glob I hg hm ?_ hdb)
  refine PySem.W.callWith_K (h₀ := X.base) I.ok.mod.kin M.kp (thn (ha.run pos pins s σ H _ I h) fun us s1 ⟨vs, H1, I1, r, q⟩ => ⟨I1.kIn, ?_⟩) he hpl
  exact run_makeS' M F hr hb (hx σ) I1 r q
theorem pe_make0S' {CX : CXT} {C f : Addr} {fd : FuncData} {sp : Sp} {E : L2.St → XK} (M : Mk X.K C f) (F : FnOk X.prog X.w X.K X.mg X.base CX k f fd ps sp) (hr : Room (k + 1) X.A) (hg : Gl X c) (hm : X.mg c = some (.ref C)) (hb : Binds X.K fd ps []) (hx : ∀ σ, PassesAt CX X σ (E σ))
    (hdb : (c == ("__debug__" : Str)) = false := by decide) : PE X (.Call (.Name c p) [] [] pos) (tMakeS' C sp E tNil) := by
  refine ⟨fun pins s σ H Q I h => ?_⟩
  refine wpAny_Call_Name_kw (ld_glob I hg hm ?_ hdb)
  exact PySem.W.callWith_K0 I.kIn M.kp (run_makeS' (us := []) M F hr hb (hx σ) I .nil h)
/-- C(..): the arguments never change -/
def makeF (c : Str) (n : Nat) (m : List D → RX D) (fs : Env → R (List D)) (ρ : Env) : R D := (fs ρ).bind fun ds => if immDs ds = true ∧ ds.length + 1 = n then (match m (.obj c [] [] :: ds) with
  | .ok .non es => (match es[0]? with
    | some (some o) => .ok o
    | _ => .st)
  | .ex x _ => .ex x
  | _ => .st) else .st
theorem make_core {K : PySem.W.Frag} {mg : Str → Option Value} {σ : L2.St} {H H1 : Hp} {C : Addr} {vs : List V} {ds : List D} {Q : VK} (hC : PySem.W.nsIn K mainGlobals c = some (some (.ref C))) (tb : TabsL H) (s1 : Same H H1) (r1 : Rds K H1 vs ds)
    (q : Out mg W σ H (if immDs ds = true ∧ ds.length + 1 = n then (match m (.obj c [] [] :: ds) with
      | .ok .non es => (match es[0]? with
        | some (some o) => R.ok o
        | _ => .st)
      | .ex x _ => .ex x
      | _ => .st) else .st) fun d => ∀ v H' A, Same H H' → Fu K H' v d A → (∀ a ∈ A, H a = none) → Q v H') :
    ∀ x dx, H1 x = none → H1 dx = none → dx ≠ x → spB K mg n [0] m (.ref x :: vs) (upd (upd H1 dx (.own x)) x (.ins C dx [])) (fun v H2 => v = .non ∧ Q (.ref x) H2) (WE W σ) := by
  intro x dx hx hdx ne
  by_cases z : immDs ds = true ∧ ds.length + 1 = n
  rotate_left
  · rw [if_neg z] at q; exact q.elim
  rw [if_pos z] at q
  obtain ⟨z1, z2⟩ := z
  have sA : Same H1 (upd H1 dx (.own x)) := new_same hdx
  have hx2 : (upd H1 dx (.own x)) x = none := by rw [upd_ne fun e => ne e.symm]; exact hx
  have sB : Same H1 (upd (upd H1 dx (.own x)) x (.ins C dx [])) := sA.trans (new_same hx2)
  generalize hH2 : upd (upd H1 dx (.own x)) x (.ins C dx []) = H2 at sB
  have ex : H2 x = some (.ins C dx []) := by rw [← hH2, upd_same]
  have edx : H2 dx = some (.own x) := by rw [← hH2, upd_ne ne, upd_same]
  have rd2 := r1.mono sB
  have fd := rd2.fu z1
  have offx : ∀ a ∈ [x, dx], ext H H2 [] a = none ∧ ∃ o, H2 a = some o ∧ ¬ Stt o := fun a ha => by
    rcases List.mem_cons.mp ha with e | ha
    · subst e
      exact ⟨ext_none (s1.free hx) (fun z => nomatch z) (fun o e => by rw [ex] at e; cases e; exact fun z => (show False from z)), _, ex, fun z => (show False from z)⟩
    · have e := List.mem_singleton.mp ha
      subst e
      exact ⟨ext_none (s1.free hdx) (fun z => nomatch z) (fun o e => by rw [edx] at e; cases e; exact fun z => (show False from z)), _, edx, fun z => (show False from z)⟩
  have st : Stx [0] K (ext H H2 []) (fun _ => [x, dx]) ((D.obj c [] [] :: ds).map some) ((V.ref x :: vs).map some) H2 := by
    refine ⟨by rw [List.length_map, List.length_map, List.length_cons, List.length_cons, r1.length], ext_h (s1.trans sB) _, fun a o e t n => ext_stt (s1.trans sB) e t n, tb.up (ext_s _), fun i d e => ?_, fun i _ => offx, fun i m j m' ne => ?_⟩
    · cases i with
      | zero =>
        have e : D.obj c [] [] = d := by simpa using e
        subst e
        exact ⟨.ref x, rfl, fun _ => .obj (A := []) ex edx hC rfl .nil (fun z => nomatch z) (fun z => nomatch z) ne.symm, fun n => absurd List.mem_cons_self n⟩
      | succ i =>
        have e : ds[i]? = some d := by
          rw [List.map_cons, List.getElem?_cons_succ, List.getElem?_map] at e
          cases z : ds[i]? with
          | none => rw [z] at e; cases e
          | some d' => rw [z] at e; simpa using e
        obtain ⟨v, A', h1, h2, h3⟩ := fd.get e
        refine ⟨v, by rw [List.map_cons, List.getElem?_cons_succ, List.getElem?_map, h1]; rfl, fun m => absurd (List.mem_singleton.mp m) (by simp), fun _ => ?_⟩
        have hA : A' = [] := List.eq_nil_iff_forall_not_mem.mpr fun a ha => nomatch h3 a ha
        subst hA
        exact (h2.at (fun _ z => nomatch z) fun b o st n hs => ext_stt (s1.trans sB) hs st n).rd
    · rw [List.mem_singleton.mp m, List.mem_singleton.mp m'] at ne
      exact absurd rfl ne
  refine ⟨by rw [List.length_cons, r1.length]; exact z2, _, _, _, st, ?_⟩
  cases hm : m (.obj c [] [] :: ds) with
  | st => rw [hm] at q; exact q.elim
  | ex cx es =>
    rw [hm] at q
    obtain ⟨C', h1, h2⟩ := q
    exact ⟨C', h1, fun H' z => h2 H' ((ext_s []).trans z.base)⟩
  | ok d es =>
    rw [hm] at q
    cases d with
    | non =>
      simp only at q
      split at q
      · rename_i od eo
        intro v H' ⟨S2, F2, A2, s2, x2, f2, n1, n2⟩
        cases f2
        refine ⟨rfl, ?_⟩
        obtain ⟨v', g1, g2, _⟩ := x2.val 0 od eo
        have g1 : V.ref x = v' := by simpa using g1
        subst g1
        exact q _ H' (F2 0) ((ext_s []).trans (s2.trans x2.sub)) (g2 (by simp)) fun a ha => ((ext_s []).trans s2).free (x2.out 0 (by simp) a ha).1
      · exact q.elim
    | _ => exact q.elim
theorem vg_make (C : CalMk X.prog X.w X.K X.mg X.base c ps k m) (hr : Room k' X.A) (tk : Takes X W) (hg : Gl X c) (ha : VA X W (e :: es) fs) (hk : k + 1 ≤ k' := by decide) (hn : ps.length = n := by rfl) (hdb : (c == ("__debug__" : Str)) = false := by decide)
    (he : starEach (e :: es) X.env = (false, eval e X.env) :: starEach es X.env := by rfl) (hpl : (backTo pos (starEach es X.env)).any (·.1) = false := by rfl) : VG X W (.Call (.Name c p) (e :: es) [] pos) (makeF c n m fs) := by
  subst hn
  obtain ⟨C, f, fd, h1, h2, h3, h4, h5⟩ := C
  exact ⟨peW (pe_makeS' h3 h5 (hr.mono hk) hg h2 h4 (fun σ => passAt tk σ) ha.pa hdb he hpl) fun σ H Q ⟨ρ, re, o⟩ => ⟨ρ, re, (Out.bind o).mono fun ds _ q vs H1 s1 r1 => make_core h1 re.tabs s1 r1 q⟩⟩
theorem vg_make0 (C : CalMk X.prog X.w X.K X.mg X.base c ps k m) (hr : Room k' X.A) (tk : Takes X W) (hg : Gl X c) (hk : k + 1 ≤ k' := by decide) (hn : ps.length = n := by rfl) (hdb : (c == ("__debug__" : Str)) = false := by decide) : VG X W (.Call (.Name c p) [] [] pos) (makeF c n m nilA) := by
  subst hn
  obtain ⟨C, f, fd, h1, h2, h3, h4, h5⟩ := C
  exact ⟨peW (pe_make0S' h3 h5 (hr.mono hk) hg h2 h4 (fun σ => passAt tk σ) hdb) fun σ H Q ⟨ρ, re, o⟩ => make_core h1 re.tabs (Same.refl H) .nil (Out.bind (show Out X.mg W σ H ((nilA ρ).bind _) _ from o))⟩

/-! ### methods that change nothing -/
def methF (c mn : Str) (m : List D → R D) (f : Env → R D) (fs : Env → R (List D)) (ρ : Env) : R D := (f ρ).bind fun d => match d with
  | .obj c' ks _ => if c' = c ∧ mn ∉ ks then (fs ρ).bind fun ds => m (d :: ds) else .st
  | _ => .st
theorem methF_core {K : PySem.W.Frag} {mg : Str → Option Value} {σ : L2.St} {H H1 : Hp} {C : Addr} {ρ : Env} {t : TA} {v : V} {d : D} {Q : VK} (hC : PySem.W.nsIn K mainGlobals c = some (some (.ref C))) (re : REnv K ρ σ H) (s1 : Same H H1) (r1 : Rd K H1 v d)
    (ht : ∀ (R : List V → Hp → Prop), (∃ ρ, REnv K ρ σ H1 ∧ Out mg W σ H1 (fs ρ) fun ds => ∀ vs H', Same H1 H' → Rds K H' vs ds → R vs H') → t σ H1 R) (hl : LenA fs n) (hn : n + 1 = ps.length)
    (q : Out mg W σ H (match d with
      | .obj c' ks _ => if c' = c ∧ mn ∉ ks then (fs ρ).bind fun ds => mr (d :: ds) else .st
      | _ => .st) fun d => ∀ v H' A, Same H H' → Fu K H' v d A → (∀ a ∈ A, H a = none) → Q v H') :
    ∃ a dx fl, v = .ref a ∧ H1 a = some (.ins C dx fl) ∧ fl.lookup mn = none ∧ t σ H1 fun vs H2 => spF K mg ps.length mr (v :: vs) H2 Q (WE W σ) := by
  cases r1 with
  | @obj a C' dx fl c' ks ds g1 g2 g3 g4 g5 =>
    have q1 : Out mg W σ H (if c' = c ∧ mn ∉ ks then (fs ρ).bind fun es => mr (.obj c' ks ds :: es) else .st) _ := q
    by_cases z : c' = c ∧ mn ∉ ks
    rotate_left
    · rw [if_neg z] at q1; exact q1.elim
    rw [if_pos z] at q1
    obtain ⟨rfl, z⟩ := z
    have eC : C' = C := by
      have g3' : PySem.W.nsIn K mainGlobals c' = some (some (.ref C')) := g3
      rw [hC] at g3'
      cases g3'; rfl
    subst eC
    subst g4
    refine ⟨a, dx, fl, rfl, g1, lookup_none z, ht _ ⟨ρ, re.mono s1, ((Out.bind q1).up s1).mono fun es he q vs H2 s2 r2 => ?_⟩⟩
    refine ⟨by rw [List.length_cons, r2.length, hl ρ es he]; exact hn, (re.tabs.up s1).up s2, _, .cons ((Rd.obj g1 g2 g3 rfl g5).mono s2) r2, ?_⟩
    cases hm : mr (.obj c' (fl.map (·.1)) ds :: es) with
    | ok d => rw [hm] at q; exact fun v H' A s3 f3 n3 => q v H' A ((s1.trans s2).trans s3) f3 fun a z => (s1.trans s2).free (n3 a z)
    | ex cx => rw [hm] at q; obtain ⟨C, h1, h2⟩ := q; exact ⟨C, h1, fun H' s3 => h2 H' ((s1.trans s2).trans s3)⟩
    | st => rw [hm] at q; exact q.elim
  | _ => exact q.elim
theorem vg_meth (C : CalM X.prog X.w X.K X.mg X.base c mn ps k mr) (hr : Room k' X.A) (tk : Takes X W) (ho : VE X W o f) (ha : VA X W (e :: es) fs) (hl : LenA fs n) (hn : n + 1 = ps.length := by rfl) (hk : k ≤ k' := by decide)
    (hst : starEach (e :: es) X.env = (false, eval e X.env) :: starEach es X.env := by rfl) (hpl : (backTo pos (starEach es X.env)).any (·.1) = false := by rfl) {pl : Sem Bool}
    (ht : eval (.Call (.Attribute o mn apos) (e :: es) [] pos) X.env = (do
      let ov ← eval o X.env
      standAt apos.atName
      let (f, first) ← holding [ov] (getMethod ov mn pl)
      callWith pos f first (backTo pos (starEach (e :: es) X.env)) (backToKw pos (keywordEach [] X.env))) := by rfl) :
    VG X W (.Call (.Attribute o mn apos) (e :: es) [] pos) (methF c mn mr f fs) := by
  obtain ⟨C, f, fd, h1, h2, h3, h4, h5⟩ := C
  exact ⟨peW (pe_methS' (pl := pl) ho.pe h2 h3 h5 (hr.mono hk) h4 (fun σ => passAt tk σ) ha.pa hst hpl ht) fun σ H Q ⟨ρ, re, o⟩ => ⟨ρ, re, (Out.bind o).mono fun d _ q v H1 s1 r1 => methF_core h1 re s1 r1 (fun R z => z) hl hn q⟩⟩
theorem vg_meth0 (C : CalM X.prog X.w X.K X.mg X.base c mn ps k mr) (hr : Room k' X.A) (tk : Takes X W) (ho : VE X W o f) (hn : 0 + 1 = ps.length := by rfl) (hk : k ≤ k' := by decide) {pl : Sem Bool}
    (ht : eval (.Call (.Attribute o mn apos) [] [] pos) X.env = (do
      let ov ← eval o X.env
      standAt apos.atName
      let (f, first) ← holding [ov] (getMethod ov mn pl)
      callWith pos f first (backTo pos (starEach [] X.env)) (backToKw pos (keywordEach [] X.env))) := by rfl) :
    VG X W (.Call (.Attribute o mn apos) [] [] pos) (methF c mn mr f nilA) := by
  obtain ⟨C, f, fd, h1, h2, h3, h4, h5⟩ := C
  exact ⟨peW (pe_meth0S' (pl := pl) ho.pe h2 h3 h5 (hr.mono hk) h4 (fun σ => passAt tk σ) ht) fun σ H Q ⟨ρ, re, o⟩ => ⟨ρ, re, (Out.bind o).mono fun d _ q v H1 s1 r1 => methF_core h1 re s1 r1 (fun R ⟨ρ, re, o⟩ => o [] H1 (Same.refl _) .nil) len_nil hn q⟩⟩
end
end Vs

namespace Vs
open PySem PySem.Spec PyProof.Rows L2

/-! ### what the top has written: classes -/
def ClsK (K : PySem.W.Frag) (c : Str) : Prop := ∃ C, PySem.W.nsIn K mainGlobals c = some (some (.ref C)) ∧ Cls K C
theorem clsK_mk {K : PySem.W.Frag} {c : Str} {C : Addr} (a : PySem.W.nsIn K mainGlobals c = some (some (.ref C))) (pg : PySem.W.plainGet K C Str.empty = true) (hd : PySem.W.hasDictIn K C = true) (po : PySem.W.plainOver K C = true) (sa : PySem.W.findIn K (.ref C) "__setattr__" = some (some (.builtin "object.__setattr__"))) : ClsK K c := ⟨C, a, pg, hd, po, sa⟩
def FldK (K : PySem.W.Frag) (c f : Str) : Prop := ∃ C, PySem.W.nsIn K mainGlobals c = some (some (.ref C)) ∧ NoAttr K C f
theorem fldK_mk {K : PySem.W.Frag} {c f : Str} {C : Addr} (a : PySem.W.nsIn K mainGlobals c = some (some (.ref C))) (n : PySem.W.findIn K (.ref C) f = some none) : FldK K c f := ⟨C, a, n⟩
def FRow (K : PySem.W.Frag) (c : Str) (l : List Str) : Prop := ∀ f ∈ l, FldK K c f
theorem fr_nil {K : PySem.W.Frag} {c : Str} : FRow K c [] := fun f h => nomatch h
theorem fr_cons {K : PySem.W.Frag} {c f : Str} {l : List Str} (p : FldK K c f) (r : FRow K c l) : FRow K c (f :: l) := fun g h => (List.mem_cons.mp h).elim (fun e => e ▸ p) (r g)
theorem ft_nil {K : PySem.W.Frag} : FT K [] := ⟨fun c f h => nomatch h⟩
theorem ft_cons {K : PySem.W.Frag} {c : Str} {l : List Str} {tb : List (Str × List Str)} (p : ClsK K c) (r : FRow K c l) (t : FT K tb) : FT K ((c, l) :: tb) := ⟨fun c' f h => by
  unfold fldOk at h
  rw [List.lookup_cons] at h
  split at h
  · rename_i e
    have e : c' = c := by simpa using e
    subst e
    obtain ⟨C, h1, h2⟩ := p
    obtain ⟨C', h3, h4⟩ := r f h
    rw [h1] at h3
    cases h3
    exact ⟨C, h1, h2, h4⟩
  · exact t.ok c' f h⟩
def MetK (K : PySem.W.Frag) (c x qual : Str) (st : Stmt) : Prop := ∃ (C f : Addr) (oc : Value) (od : Option Addr) (kV doc pm : Value) (an : Option Addr) (cd ct : Value) (sl : Array (Option Value)),
  PySem.W.nsIn K mainGlobals c = some (some (.ref C)) ∧ PySem.W.findIn K (.ref C) x = some (some (.ref f)) ∧ PySem.W.isFn K (.ref f) = true ∧
  K.lookup f = some ⟨oc, od, .func (PySem.W.fnOf x qual (defArgs st) (defBody st) (defScope st) .none kV doc pm an cd ct), sl⟩ ∧ PySem.W.codeIn K cd qual = true ∧ PySem.W.keepIn K (.ref f) = true
theorem metK_mk {K : PySem.W.Frag} {c x qual : Str} {st : Stmt} {C f : Addr} {oc : Value} {od : Option Addr} {kV doc pm : Value} {an : Option Addr} {cd ct : Value} {sl : Array (Option Value)}
    (a : PySem.W.nsIn K mainGlobals c = some (some (.ref C))) (b : PySem.W.findIn K (.ref C) x = some (some (.ref f))) (c' : PySem.W.isFn K (.ref f) = true)
    (d : K.lookup f = some ⟨oc, od, .func (PySem.W.fnOf x qual (defArgs st) (defBody st) (defScope st) .none kV doc pm an cd ct), sl⟩) (e : PySem.W.codeIn K cd qual = true) (f' : PySem.W.keepIn K (.ref f) = true) : MetK K c x qual st :=
  ⟨C, f, oc, od, kV, doc, pm, an, cd, ct, sl, a, b, c', d, e, f'⟩
theorem mdef_of {K : PySem.W.Frag} {h : Heap} {mg : Str → Option Value} {c x qual : Str} {st : Stmt} (X : K.In h) (G : h.Ns mainGlobals mg) (p : ClsK K c) (m : MetK K c x qual st) : MDef K mg c x qual st := by
  obtain ⟨C, h1, h2⟩ := p
  obtain ⟨C', f, oc, od, kV, doc, pm, an, cd, ct, sl, a, b, c', d, e, f'⟩ := m
  rw [h1] at a
  cases a
  exact ⟨C, f, _, h1, PySem.W.mg_of X G h1, h2, ⟨b, c', f'⟩, fun_mk d e f'⟩
def MkC (K : PySem.W.Frag) (c : Str) : Prop := ∃ C, PySem.W.nsIn K mainGlobals c = some (some (.ref C)) ∧ PySem.W.makesIn K C = true ∧ PySem.W.keepIn K (.ref C) = true
theorem mkC_mk {K : PySem.W.Frag} {c : Str} {C : Addr} (a : PySem.W.nsIn K mainGlobals c = some (some (.ref C))) (b : PySem.W.makesIn K C = true) (k : PySem.W.keepIn K (.ref C) = true) : MkC K c := ⟨C, a, b, k⟩
theorem MkC.mk {K : PySem.W.Frag} {c : Str} (M : MkC K c) : ∀ C f, PySem.W.nsIn K mainGlobals c = some (some (.ref C)) → Meth K C "__init__" f → Mk K C f := fun C f h m => by
  obtain ⟨C', h1, h2, h3⟩ := M
  rw [h] at h1
  cases h1
  exact ⟨h2, m.at_, m.fn, h3⟩
section
variable {P : Program} {w : World} {K : PySem.W.Frag} {mg : Str → Option Value} {base : Heap} {x c : Str} {ps : List Str} {J : List Nat} {k k' : Nat} {m : List D → RX D}
theorem CalB.at (C : CalB P w K mg base x ps J k m) (h : k = k') : CalB P w K mg base x ps J k' m := h ▸ C
theorem CalBM.at (C : CalBM P w K mg base c x ps J k m) (h : k = k') : CalBM P w K mg base c x ps J k' m := h ▸ C
end
end Vs

namespace L2
open PySem PySem.Spec PyProof.Rows
section
variable {P : Program} {w : World} {K : PySem.W.Frag}
/-- the lists at a, b and c as they stand at each turn, the items in new triples -/
def Itz3 (K : PySem.W.Frag) (a b c : Addr) : It :=
  ⟨fun i H => ∃ (xs ys zs : List V) (x y u : V), SqL K H a xs ∧ SqL K H b ys ∧ SqL K H c zs ∧ xs[i]? = some x ∧ ys[i]? = some y ∧ zs[i]? = some u,
    fun i H v H' => ∃ T x y u, v = .ref T ∧ H T = none ∧ H' = upd H T (.tup [x, y, u]) ∧ (∀ xs, SqL K H a xs → xs[i]? = some x) ∧ (∀ ys, SqL K H b ys → ys[i]? = some y) ∧ ∀ zs, SqL K H c zs → zs[i]? = some u,
    fun i H => ∃ xs ys zs : List V, SqL K H a xs ∧ SqL K H b ys ∧ SqL K H c zs ∧ (xs.length ≤ i ∨ ys.length ≤ i ∨ zs.length ≤ i)⟩
/-- what a list's iterator draws at the place where it stands, perhaps behind the end -/
theorem draws_at {A : Around} (hh : A.handled = none) (it l : Addr) (hne : l ≠ it) (items : Array Value) (i : Nat) (h : Heap) (hit : h.IsListIter it l i) (hl : h.IsList l items) :
    ∃ (n : Nat) (Pd : Nat → Value → Prop) (St : Nat → Heap → Prop), Draws P w A it [it, l] n Pd St ∧ St i h ∧ i ≤ n ∧ (items.size ≤ i → i = n) := by
  by_cases q : i < items.size
  · exact ⟨_, _, _, Draws.list hh it l hne items, ⟨hit, hl⟩, Nat.le_of_lt q, fun z => by omega⟩
  · refine ⟨i, fun _ _ => True, fun j h => j = i ∧ h.IsListIter it l i ∧ h.IsList l items, ⟨?_, ?_, ?_, ?_⟩, ⟨rfl, hit, hl⟩, Nat.le_refl _, fun _ => rfl⟩
    · exact fun _ _ st => let ⟨o, ho, _⟩ := st.2.1; ⟨o, ho⟩
    · exact fun _ _ _ st hk => ⟨st.1, st.2.1.at fun o e => hk it (by simp) o e, st.2.2.at fun o e => hk l (by simp) o e⟩
    · exact fun j s Q E hi st hQ => absurd st.1 (Nat.ne_of_lt hi)
    · exact fun s Q E st hE => wpAny_nextOf_list_end hh st.2.1 st.2.2 (by simp; omega) hE
theorem turn_zip3 {elts : List Expr} {kk : Nat} {tpos : Pos} {a b c z TI TO i1 i2 i3 : Addr} (D : ZipSep3 z TI TO i1 i2 i3 [i1, a] [i2, b] [i3, c]) (na : a ≠ i1) (nb : b ≠ i2) (nc : c ≠ i3) :
    Turn P w K (.Tuple elts kk tpos) (Itz3 K a b c) [z, TI, TO, i1, i2, i3] z (fun i h => IsZip h z TI TO .none ∧ IsTupOf3 h TI (.ref i1) (.ref i2) (.ref i3) ∧ (∃ x y u, IsTupOf3 h TO x y u) ∧ h.IsListIter i1 a i ∧ h.IsListIter i2 b i ∧ h.IsListIter i3 c i) where
  mem := by simp
  obj := fun i h st d hd => by
    obtain ⟨hz, hTI, ⟨x, y, u, hTO⟩, ⟨o1, e1, _, d1⟩, ⟨o2, e2, _, d2⟩, ⟨o3, e3, _, d3⟩⟩ := st
    have e' : d = z ∨ d = TI ∨ d = TO ∨ d = i1 ∨ d = i2 ∨ d = i3 := by simpa using hd
    rcases e' with q | q | q | q | q | q
    · rw [q]; exact ⟨_, hz, fun v q => nomatch q⟩
    · rw [q]; exact ⟨_, hTI, fun v q => nomatch q⟩
    · rw [q]; exact ⟨_, hTO, fun v q => nomatch q⟩
    · rw [q]; exact ⟨o1, e1, fun v q => by rw [d1] at q; cases q⟩
    · rw [q]; exact ⟨o2, e2, fun v q => by rw [d2] at q; cases q⟩
    · rw [q]; exact ⟨o3, e3, fun v q => by rw [d3] at q; cases q⟩
  keep := fun i h h' st k => by
    obtain ⟨hz, hTI, ⟨x, y, u, hTO⟩, h1, h2, h3⟩ := st
    exact ⟨k z (by simp) _ hz, k TI (by simp) _ hTI, ⟨x, y, u, k TO (by simp) _ hTO⟩, h1.at fun o q => k i1 (by simp) o q, h2.at fun o q => k i2 (by simp) o q, h3.at fun o q => k i3 (by simp) o q⟩
  item := by
    intro X hP hw hK hc i pins s σ H E I hf st hg
    subst hP hw hK
    obtain ⟨hz, hTI, ⟨x0, y0, u0, hTO⟩, h1, h2, h3⟩ := st
    obtain ⟨xs, ys, zs, x, y, u, hqx, hqy, hqz, hx, hy, hu⟩ := hg
    obtain ⟨its, rv, p, _⟩ := I.list hqx
    obtain ⟨its2, rv2, p2, _⟩ := I.list hqy
    obtain ⟨its3, rv3, p3, _⟩ := I.list hqz
    obtain ⟨v1, hv1, r1⟩ := rv.get hx
    obtain ⟨v2, hv2, r2⟩ := rv2.get hy
    obtain ⟨v3, hv3, r3⟩ := rv3.get hu
    have hzl : z < s.heap.objs.size := Heap.lt_size hz
    have hh : X.A.in1.handled = none := I.ok.hd hc
    have l1 : i < its.toArray.size := by have := (List.getElem?_eq_some_iff.mp hv1).1; simpa using this
    have l2 : i < its2.toArray.size := by have := (List.getElem?_eq_some_iff.mp hv2).1; simpa using this
    have l3 : i < its3.toArray.size := by have := (List.getElem?_eq_some_iff.mp hv3).1; simpa using this
    refine wpAny_pyNext_zipD3_item D (Draws.list hh i1 a na its.toArray) (Draws.list hh i2 b nb its2.toArray) (Draws.list hh i3 c nc its3.toArray) hz hTI hTO ⟨h1, p.isList⟩ ⟨h2, p2.isList⟩ ⟨h3, p3.isList⟩ l1 l2 l3 fun w1 w2 w3 h' tk e1 e2 e3 z' TO' d1 d2 d3 hT hsz hk => ?_
    have e1 : v1 = w1 := by simpa [hv1] using e1
    have e2 : v2 = w2 := by simpa [hv2] using e2
    have e3 : v3 = w3 := by simpa [hv3] using e3
    subst e1 e2 e3
    refine ⟨_, rfl, wpAny_letOwnedTupleGo_zip (s := { s with heap := h', toks := tk }) z' fun h'' z'' sb => ?_⟩
    have hT2 : h''.get? s.heap.objs.size = some { cls := .type "tuple", data := .seq #[v1, v2, v3] } := (sb.2 _ (Nat.ne_of_gt hzl)).trans hT
    have new : ObjOk X.prog X.w (upd H s.heap.objs.size (.tup [x, y, u])) h'' s.heap.objs.size (.tup [x, y, u]) :=
      ⟨by show 3 ≤ sizeLine; decide, [v1, v2, v3], .cons r1 (.cons r2 (.cons r3 .nil)), ⟨_, hT2, rfl, _, rfl⟩⟩
    have I1 : Inv X pins σ (upd H s.heap.objs.size (.tup [x, y, u])) { s with heap := h'', toks := tk } :=
      I.turnedNew (t' := tk) (ch := [z, TI, TO, i1, i2, i3]) (fun d o hb q => (sb.2 d (fun q' => hb (by simp [q']))).trans (hk d o (fun q' => hb (by simp [q'])) (fun q' => hb (by simp [q'])) (fun q' => hb (by simp [q'])) (fun q' => hb (by simp [q'])) (fun q' => hb (by simp [q'])) q)) hf (Nat.le_refl _) new
    refine ⟨.ref s.heap.objs.size, _, I1, rfl, ⟨_, x, y, u, rfl, I.hok.fresh (Nat.le_refl _), rfl, fun l hl => by rw [I.list_inj hl hqx]; exact hx, fun l hl => by rw [I.list_inj hl hqy]; exact hy, fun l hl => by rw [I.list_inj hl hqz]; exact hu⟩, ⟨z'', ?_, ⟨v1, v2, v3, ?_⟩, ?_, ?_, ?_⟩, fun d hdm => ?_⟩
    · exact (sb.2 _ D.TIz).trans (hk _ _ D.TIz D.TITO D.TIi1 D.TIi2 D.TIi3 hTI)
    · exact (sb.2 _ D.TOz).trans TO'
    · exact d1.1.at fun o q => (sb.2 _ D.zi1.symm).trans q
    · exact d2.1.at fun o q => (sb.2 _ D.zi2.symm).trans q
    · exact d3.1.at fun o q => (sb.2 _ D.zi3.symm).trans q
    · have hlt : d < s.heap.objs.size := by
        have e' : d = z ∨ d = TI ∨ d = TO ∨ d = i1 ∨ d = i2 ∨ d = i3 := by simpa using hdm
        rcases e' with q | q | q | q | q | q
        · rw [q]; exact hzl
        · rw [q]; exact Heap.lt_size hTI
        · rw [q]; exact Heap.lt_size hTO
        · rw [q]; obtain ⟨_, e1, _⟩ := h1; exact Heap.lt_size e1
        · rw [q]; obtain ⟨_, e2, _⟩ := h2; exact Heap.lt_size e2
        · rw [q]; obtain ⟨_, e3, _⟩ := h3; exact Heap.lt_size e3
      rw [upd_ne (Nat.ne_of_lt hlt)]
      exact (hf d hdm).1
  done := by
    intro X hP hw hK hc i pins s σ H E I hf st hg
    subst hP hw hK
    obtain ⟨hz, hTI, ⟨x0, y0, u0, hTO⟩, h1, h2, h3⟩ := st
    obtain ⟨xs, ys, zs, hqx, hqy, hqz, hend⟩ := hg
    obtain ⟨its, rv, p, _⟩ := I.list hqx
    obtain ⟨its2, rv2, p2, _⟩ := I.list hqy
    obtain ⟨its3, rv3, p3, _⟩ := I.list hqz
    have l1 := rv.length
    have l2 := rv2.length
    have l3 := rv3.length
    have hh : X.A.in1.handled = none := I.ok.hd hc
    obtain ⟨n1, P1, S1, D1, s1, m1, k1⟩ := draws_at (P := X.prog) (w := X.w) hh i1 a na its.toArray i s.heap h1 p.isList
    obtain ⟨n2, P2, S2, D2, s2, m2, k2⟩ := draws_at (P := X.prog) (w := X.w) hh i2 b nb its2.toArray i s.heap h2 p2.isList
    obtain ⟨n3, P3, S3, D3, s3, m3, k3⟩ := draws_at (P := X.prog) (w := X.w) hh i3 c nc its3.toArray i s.heap h3 p3.isList
    have he : i = n1 ∨ i = n2 ∨ i = n3 := by
      rcases hend with q | q | q
      · exact .inl (k1 (by simp; omega))
      · exact .inr (.inl (k2 (by simp; omega)))
      · exact .inr (.inr (k3 (by simp; omega)))
    exact wpAny_pyNext_zipD3_end D D1 D2 D3 hz hTI hTO s1 s2 s3 m1 m2 m3 he fun h' tk hk => ⟨rfl, I.turnedL (t' := tk) (ch := [z, TI, TO, i1, i2, i3]) (fun d o hb q =>
      hk d o (fun q' => hb (by simp [q'])) (fun q' => hb (by simp [q'])) (fun q' => hb (by simp [q'])) (fun q' => hb (by simp [q'])) (fun q' => hb (by simp [q'])) q) hf⟩
  self := fun A i s Q E st h => wpAny_pyIter_zip st.1 h
def iZip3 (K : PySem.W.Frag) (ta : TA) : TI := fun σ H R => ta σ H fun vs H1 => ∃ a b c xs ys zs, vs = [.ref a, .ref b, .ref c] ∧ SqL K H1 a xs ∧ SqL K H1 b ys ∧ SqL K H1 c zs ∧ R (Itz3 K a b c) H1
theorem pi_zip3 {X : Cx} {e e2 e3 : Expr} {ta : TA} {p pos tpos : Pos} {elts : List Expr} {kk : Nat} (hg : Gl X "zip") (hm : X.mg "zip" = none) (ha : PA X [e, e2, e3] ta)
    (hs : starEach [e, e2, e3] X.env = (false, eval e X.env) :: starEach [e2, e3] X.env := by rfl) (hpl : (backTo pos (starEach [e2, e3] X.env)).any (·.1) = false := by rfl) :
    PI X (.Tuple elts kk tpos) (.Call (.Name "zip" p) [e, e2, e3] [] pos) (iZip3 X.K ta) := by
  refine ⟨fun pins s σ H R I h => ?_⟩
  refine Call_ (ld_blt I hg hm PyProof.Rows.boot_zip (PyProof.Rows.callWith_type1 (thn (ha.run pos pins s σ H _ I h) fun us s1 ⟨vs, H1, I1, r1, q1⟩ => ?_) hs hpl))
  obtain ⟨a, b, c, xs, ys, zs, ex, hqx, hqy, hqz, q⟩ := q1
  subst ex
  cases r1 with
  | cons r rr =>
    cases rr with
    | cons r' rr =>
      cases rr with
      | cons r'' rr =>
        cases rr
        cases r
        cases r'
        cases r''
        obtain ⟨its, rv, p1, _⟩ := I1.list hqx
        obtain ⟨its2, rv2, p2, _⟩ := I1.list hqy
        obtain ⟨its3, rv3, p3, _⟩ := I1.list hqz
        have la : a < s1.heap.objs.size := p1.lt
        have lb : b < s1.heap.objs.size := p2.lt
        have lc : c < s1.heap.objs.size := p3.lt
        refine zip_begins3 (begins_list a its.toArray) (begins_list b its2.toArray) (begins_list c its3.toArray) p1.isList p2.isList p3.isList fun h' hz hTI hTO g1 g2 g3 hsz hk => wpAny_pyIter_zip hz ?_
        have I2 : Inv X pins σ H1 { s1 with heap := h' } := I1.kept (t' := s1.toks) hk
        have D := zip_sep3 (N := s1.heap.objs.size) (fp1 := [a]) (fp2 := [b]) (fp3 := [c]) (fun x hx => by rw [List.mem_singleton.mp hx]; exact la) (fun x hx => by rw [List.mem_singleton.mp hx]; exact lb) (fun x hx => by rw [List.mem_singleton.mp hx]; exact lc)
        refine ⟨s1.heap.objs.size + 5, [s1.heap.objs.size + 5, s1.heap.objs.size + 3, s1.heap.objs.size + 4, s1.heap.objs.size, s1.heap.objs.size + 1, s1.heap.objs.size + 2], _, _, H1, rfl, I2, turn_zip3 D (Nat.ne_of_lt la) (Nat.ne_of_lt (Nat.lt_of_lt_of_le lb (Nat.le_add_right _ _))) (Nat.ne_of_lt (Nat.lt_of_lt_of_le lc (Nat.le_add_right _ _))), ⟨hz, hTI, ⟨_, _, _, hTO⟩, ⟨_, g1, rfl, rfl⟩, ⟨_, g2, rfl, rfl⟩, ⟨_, g3, rfl, rfl⟩⟩, fun d hdm => ?_, q⟩
        have e' : d = s1.heap.objs.size + 5 ∨ d = s1.heap.objs.size + 3 ∨ d = s1.heap.objs.size + 4 ∨ d = s1.heap.objs.size ∨ d = s1.heap.objs.size + 1 ∨ d = s1.heap.objs.size + 2 := by simpa using hdm
        have hle : s1.heap.objs.size ≤ d := by
          rcases e' with z | z | z | z | z | z
          · rw [z]; exact Nat.le_add_right _ _
          · rw [z]; exact Nat.le_add_right _ _
          · rw [z]; exact Nat.le_add_right _ _
          · rw [z]; exact Nat.le_refl _
          · rw [z]; exact Nat.le_add_right _ _
          · rw [z]; exact Nat.le_add_right _ _
        exact I1.fpOk hle (I1.hok.fresh hle)
end
end L2
namespace Vs
open PySem PySem.Spec PyProof.Rows L2
section
variable {X : Cx} {W : WX} {own : List Nat} {a b c : Expr} {fs : Env → R (List D)} {p pos : Pos} {K : PySem.W.Frag} {S : Hp}
def zipL3 : List D → List D → List D → List D
  | d :: ds, e :: es, f :: gs => .tup [d, e, f] :: zipL3 ds es gs
  | _, _, _ => []
theorem zipL3_get : ∀ {ds es gs : List D} {i : Nat} {d : D}, (zipL3 ds es gs)[i]? = some d → ∃ x y u, ds[i]? = some x ∧ es[i]? = some y ∧ gs[i]? = some u ∧ d = .tup [x, y, u]
  | [], _, _, i, d, h => by simp [zipL3] at h
  | _ :: _, [], _, i, d, h => by simp [zipL3] at h
  | _ :: _, _ :: _, [], i, d, h => by simp [zipL3] at h
  | x :: ds, y :: es, u :: gs, 0, d, h => by
    simp [zipL3] at h
    exact ⟨x, y, u, rfl, rfl, rfl, h.symm⟩
  | x :: ds, y :: es, u :: gs, i + 1, d, h => by
    simp only [zipL3, List.getElem?_cons_succ] at h ⊢
    exact zipL3_get h
theorem zipL3_length : ∀ ds es gs : List D, (zipL3 ds es gs).length = min (min ds.length es.length) gs.length
  | [], _, _ => by simp [zipL3]
  | _ :: _, [], _ => by simp [zipL3]
  | _ :: _, _ :: _, [] => by simp [zipL3]
  | x :: ds, y :: es, u :: gs => by simp [zipL3, zipL3_length ds es gs]
theorem it_zip3 {a b c : Addr} {vs ws us : List V} {ds es gs : List D} (h : SqL K S a vs) (r : Rds K S vs ds) (h' : SqL K S b ws) (r' : Rds K S ws es) (h'' : SqL K S c us) (r'' : Rds K S us gs) : IterOk K (Itz3 K a b c) S (zipL3 ds es gs) := fun S1 H1 i s1 s2 => by
  have hq : SqL K H1 a vs := (s1.trans s2).seq h
  have hq' : SqL K H1 b ws := (s1.trans s2).seq h'
  have hq'' : SqL K H1 c us := (s1.trans s2).seq h''
  refine ⟨fun d hd => ?_, fun hl => ⟨vs, ws, us, hq, hq', hq'', by rw [r.length, r'.length, r''.length]; rw [zipL3_length] at hl; omega⟩⟩
  obtain ⟨x, y, u, h1, h2, h3, rfl⟩ := zipL3_get hd
  obtain ⟨v, hv, rv⟩ := r.get h1
  obtain ⟨w, hw, rw_⟩ := r'.get h2
  obtain ⟨t, ht, rt⟩ := r''.get h3
  refine ⟨⟨vs, ws, us, v, w, t, hq, hq', hq'', hv, hw, ht⟩, fun x H' y => ?_⟩
  obtain ⟨T, k1, k2, k3, rfl, hT, rfl, y1, y2, y3⟩ := y
  have e := y1 vs hq
  rw [hv] at e
  cases e
  have e := y2 ws hq'
  rw [hw] at e
  cases e
  have e := y3 us hq''
  rw [ht] at e
  cases e
  have sn : Same H1 (upd H1 T (.tup [v, w, t])) := new_same hT
  exact ⟨sn, .tup (.inl (ext_stt (s2.trans sn) upd_same trivial)) (.cons (rv.mono (s1.trans (ext_s []))) (.cons (rw_.mono (s1.trans (ext_s []))) (.cons (rt.mono (s1.trans (ext_s []))) .nil)))⟩
def zipR3 : List D → R (List D)
  | [.lst xs, .lst ys, .lst zs] => .ok (zipL3 xs ys zs)
  | _ => .st
theorem vi_zip3 {elts : List Expr} {kk : Nat} {tpos : Pos} (hg : Gl X "zip") (hm : X.mg "zip" = none) (ha : VPs X W own [a, b, c] fs) (hs : starEach [a, b, c] X.env = (false, eval a X.env) :: starEach [b, c] X.env := by rfl) (hpl : (backTo pos (starEach [b, c] X.env)).any (·.1) = false := by rfl) :
    VI X W own (.Tuple elts kk tpos) (.Call (.Name "zip" p) [a, b, c] [] pos) (itR zipR3 fs) :=
  ⟨piW (pi_zip3 hg hm ha.pa hs hpl) fun σ H Q ⟨ρ, S, F, st, o⟩ => ⟨ρ, S, F, st, (Out.bind o).mono fun ds _ q vs H' A s n r => by
    unfold zipR3 at q
    split at q
    · obtain ⟨v, w, u, rfl, h1, h2, h3⟩ := rds3 r
      cases h1 with
      | lst h r1 =>
        cases h2 with
        | lst h' r' =>
          cases h3 with
          | lst h'' r'' => exact ⟨_, _, _, _, _, _, rfl, (ext_h (st.sub.trans s) A).seq h, (ext_h (st.sub.trans s) A).seq h', (ext_h (st.sub.trans s) A).seq h'', q _ H' A s n (it_zip3 h r1 h' r' h'' r'')⟩
    · exact q.elim⟩⟩
end
end Vs

namespace L2
open PySem PySem.Spec PyProof.Rows
section
variable {X : Cx} {op : CmpOp} {r : R2} {pos : Pos}
/-! ### a <= b <= c <= .. -/
def tLinks (r : R2) : List TE → V → TE
  | [], _ => fun _ _ _ => False
  | [t], x => fun σ H Q => t σ H fun y H1 => r x y H1 Q
  | t :: t' :: ts, x => fun σ H Q => t σ H fun y H1 => r x y H1 fun z H2 => ∃ k, z = .bl k ∧ (if k = true then tLinks r (t' :: ts) y σ H2 Q else Q (.bl false) H2)
inductive PEs (X : Cx) : List Expr → List TE → Prop
  | nil : PEs X [] []
  | cons {e : Expr} {t : TE} {es : List Expr} {ts : List TE} (h : PE X e t) (hs : PEs X es ts) : PEs X (e :: es) (t :: ts)
theorem test_links (ho : OpR X (compareOp op) r) : ∀ {es : List Expr} {ts : List TE}, PEs X es ts → ∀ (pins : List (Addr × Obj)) (s : Shared) (σ : St) (H : Hp) (x : V) (v : Value) (Q : Bool → Hp → Prop), Inv X pins σ H s → RelV x v → tTest (tLinks r ts x) σ H Q →
    wpAny (model X.prog X.w) X.A (testChain pos v (es.map fun _ => op) (evalEach es X.env)) (TP X pins σ Q) X.xe s
  | _, _, .nil, pins, s, σ, H, x, v, Q, I, rv, h => h.elim
  | _, _, .cons he .nil, pins, s, σ, H, x, v, Q, I, rv, h => by
    refine test_last (thn (he.run pins s σ H _ I h) fun u s1 ⟨y, H1, I1, r1, q1⟩ => thn (ho pins s1 σ H1 x y v u _ I1 rv r1 q1) fun d s2 ⟨z, H2, I2, r2, k, e, q⟩ => ?_)
    subst e
    cases r2
    exact wpAny_truthy_bool ⟨H2, I2, q⟩
  | _, _, .cons he (.cons he' hs), pins, s, σ, H, x, v, Q, I, rv, h => by
    refine test_link (thn (he.run pins s σ H _ I h) fun u s1 ⟨y, H1, I1, r1, q1⟩ => thn (ho pins s1 σ H1 x y v u _ I1 rv r1 q1) fun d s2 ⟨z, H2, I2, r2, k, e, q⟩ => ?_)
    subst e
    cases r2
    refine wpAny_truthy_bool ?_
    cases k with
    | false =>
      obtain ⟨k', e', q'⟩ := q
      cases e'
      exact ite_ff ⟨H2, I2, q'⟩
    | true => exact ite_tt (test_links ho (.cons he' hs) pins s2 σ H2 y u Q I2 r1 q)
theorem pt_links {a b b' : Expr} {bs : List Expr} {ops : List CmpOp} {ta : TE} {ts : List TE} (ho : OpR X (compareOp op) r) (ha : PE X a ta) (hb : PEs X (b :: b' :: bs) ts) (hops : ops = bs.map fun _ => op)
    (hm : lastMarks (op :: op :: ops) (b :: b' :: bs) = false := by with_unfolding_all rfl) : PT X (.Compare a (op :: op :: ops) (b :: b' :: bs) pos) (tTest fun σ H Q => ta σ H fun x H1 => tLinks r ts x σ H1 Q) := by
  subst hops
  exact ⟨fun pins s σ H Q I h => isTrue_chain (thn (ha.run pins s σ H _ I h) fun v s1 ⟨x, H1, I1, r1, q1⟩ => test_links ho hb pins s1 σ H1 x v Q I1 r1 q1) hm⟩
end
end L2
namespace Vs
open PySem PySem.Spec PyProof.Rows L2
section
variable {X : Cx} {W : WX} {pos : Pos} {op : CmpOp} {r : R2} {gd : D → D → R D} {f : Env → R D} {a b b' : Expr} {bs : List Expr}
def chL (gd : D → D → R D) : List (Env → R D) → D → Env → R D
  | [], _, _ => .st
  | [f], x, ρ => (f ρ).bind fun y => gd x y
  | f :: f' :: fs, x, ρ => (f ρ).bind fun y => (gd x y).bind fun z => match z with
    | .bl true => chL gd (f' :: fs) y ρ
    | .bl false => .ok (.bl false)
    | _ => .st
def chN (gd : D → D → R D) (f : Env → R D) (fs : List (Env → R D)) (ρ : Env) : R D := (f ρ).bind fun x => chL gd fs x ρ
theorem tLinks_of (k : OpD X r gd) (n : NoEx2 gd) {σ : L2.St} {H : Hp} {ρ : Env} (re : REnv X.K ρ σ H) {Q : VK} : ∀ (fs : List (Env → R D)) (x : D) (v : V) (H1 : Hp), Same H H1 → Rd X.K H1 v x →
    Out X.mg W σ H (chL gd fs x ρ) (fun d => ∀ u H' A, Same H H' → Fu X.K H' u d A → (∀ a ∈ A, H a = none) → Q u H') → tLinks r (fs.map (tF X.K X.mg W)) v σ H1 Q
  | [], x, v, H1, s1, r1, o => o.elim
  | [f], x, v, H1, s1, r1, o => by
    refine ⟨ρ, re.mono s1, ((Out.bind o).up s1).mono fun e _ q t H4 s4 r4 => ?_⟩
    cases hz' : gd x e with
    | ok z' =>
      rw [hz'] at q
      exact k v t x e H4 Q z' (r1.mono s4) r4 hz' fun u H5 A s5 f5 n5 => q u H5 A ((s1.trans s4).trans s5) f5 fun a ha => (s1.trans s4).free (n5 a ha)
    | ex c => exact absurd hz' (n x e c)
    | st => rw [hz'] at q; exact q.elim
  | f :: f' :: fs, x, v, H1, s1, r1, o => by
    refine ⟨ρ, re.mono s1, ((Out.bind o).up s1).mono fun y _ q w H2 s2 r2 => ?_⟩
    have q := Out.bind q
    cases hz : gd x y with
    | ok z =>
      rw [hz] at q
      have q : Out X.mg W σ H (match z with | .bl true => chL gd (f' :: fs) y ρ | .bl false => .ok (.bl false) | _ => .st) _ := q
      refine k v w x y H2 _ z (r1.mono s2) r2 hz fun u H3 A s3 f3 n3 => ?_
      cases f3 with
      | bl b =>
        refine ⟨b, rfl, ?_⟩
        cases b with
        | true => exact tLinks_of k n re (f' :: fs) y w H3 ((s1.trans s2).trans s3) (r2.mono s3) q
        | false => exact q _ H3 [] ((s1.trans s2).trans s3) (.bl _) (fun _ h => nomatch h)
      | _ => exact q.elim
    | ex c => exact absurd hz (n x y c)
    | st => rw [hz] at q; exact q.elim
/-- the parts of a chain -/
structure VEl (X : Cx) (W : WX) (es : List Expr) (fs : List (Env → R D)) : Prop where
  ps : PEs X es (fs.map (tF X.K X.mg W))
theorem vel_nil : VEl X W [] [] := ⟨.nil⟩
theorem vel_cons {e : Expr} {es : List Expr} {f : Env → R D} {fs : List (Env → R D)} (h : VE X W e f) (hs : VEl X W es fs) : VEl X W (e :: es) (f :: fs) := ⟨.cons h.pe hs.ps⟩
theorem vt_chN {ops : List CmpOp} {fs : List (Env → R D)} (ho : OpR X (compareOp op) r) (k : OpD X r gd) (n : NoEx2 gd) (ha : VE X W a f) (hb : VEl X W (b :: b' :: bs) fs) (hops : ops = bs.map fun _ => op)
    (hm : lastMarks (op :: op :: ops) (b :: b' :: bs) = false := by with_unfolding_all rfl) : VT X W (.Compare a (op :: op :: ops) (b :: b' :: bs) pos) (boolR (chN gd f fs)) :=
  ⟨ptW (pt_links ho ha.pe hb.ps hops hm) fun σ H Q ⟨ρ, re, o⟩ =>
    ⟨ρ, re, (Out.bind (boolR_out o)).mono fun x _ q v H1 s1 r1 => tLinks_of k n re fs x v H1 s1 r1 (q.mono fun d _ ⟨kk, e, q⟩ u H5 A s5 f5 n5 => by subst e; cases f5; exact ⟨kk, rfl, q H5 s5⟩)⟩⟩
end
end Vs

namespace Vs
open PySem PySem.Spec PyProof.Rows L2
/-! ### x = a part of something: from here on no slot owns -/
section
variable {X : Cx} {W : WX} {own : List Nat} {ol : Ol} {e : Expr} {f : Env → R D} {pos : Pos} {K : PySem.W.Frag} {H : Hp} {ρ : Env} {σ : L2.St}
theorem stx_nil {v : V} {d : D} (h : REnv K ρ σ H) (r : Rd K H v d) (i : Nat) : Stx [] K H (fun _ => []) (ρ.set i (some d)) (σ.set i (some v)) H := by
  refine ⟨by rw [List.length_set, List.length_set]; exact h.len, Same.refl _, fun a o e _ _ => e, h.tabs, fun j e q => ?_, fun _ m => (nomatch m), fun _ m => (nomatch m)⟩
  rcases get_set q with ⟨rfl, e1, hl⟩ | ⟨ne, q⟩
  · cases e1
    exact ⟨v, by rw [List.getElem?_set_self (by rw [← h.len]; exact hl)], fun m => (nomatch m), fun _ => r⟩
  · obtain ⟨u, h1, h2⟩ := h.val j e q
    exact ⟨u, by rw [List.getElem?_set_ne (Ne.symm ne)]; exact h1, fun m => (nomatch m), fun _ => h2⟩
theorem vs_shr (i : Nat) {x : Str} {pos' : Pos} (hN : X.N.Nodup) (hi : X.N[i]? = some x) (hx : Loc X.env.scope x) (he : VE X W e f) (hs : swapsWith e (some (.Name x pos')) pos.line X.env = pure false := by rfl) (hf : X.fn x = true ∨ X.env.scope.names.lookup x = some .local := by first | exact .inl rfl | exact .inr rfl | assumption) (we : ∀ i ∈ ol.e, i ∈ own := by first | decide | (dsimp only; decide)) (hp : ol.P i = none := by rfl) :
    VS X W own [] ol (.Assign [.Name x pos'] e pos) (asgS i f) := ⟨psW (ps_set hN hi hx he.pe hs hf) fun D σ H ⟨B, ρ, x, pn, q⟩ => ⟨ρ, x.env, (SEnd.out x pn we q).mono fun d _ q v H' s r =>
  q _ _ ⟨H', fun _ => [], x.base.trans s, stx_nil (x.env.mono s) r i⟩ (pn.set hp)⟩⟩
end
end Vs

namespace L2
open PySem PySem.Spec PyProof.Rows
/-! ### a dict of the module: is a text a key of it -/
def KHas (K : PySem.W.Frag) (w : World) (a : Addr) (x : Str) (b : Bool) : Prop := ∃ es n r, K.lookup a = some ⟨.type "dict", none, .dict es n, #[]⟩ ∧ PySem.W.KeysLit w.params es.toList ∧ (a == sysModules) = false ∧ PySem.W.nsIn K a x = some r ∧ r.isSome = b
def tKHas (K : PySem.W.Frag) (w : World) (neg : Bool) (ty td : TE) : TE := fun σ H Q => ty σ H fun y H1 => td σ H1 fun x H2 => ∃ (p : Addr) (z : Str) (b : Bool), x = .ref p ∧ y = .str z ∧ KHas K w p z b ∧ Q (.bl (if neg then !b else b)) H2
section
variable {X : Cx} {i o : Expr} {ty td : TE}
theorem pc_knin (hi : PE X i ty) (ho : PE X o td) : PC X .NotIn i o (tKHas X.K X.w true ty td) := by
  refine ⟨fun pins s σ H Q I h => ?_⟩
  refine thn (hi.run pins s σ H _ I h) fun iv s1 ⟨y, H1, I1, ry, q1⟩ => thn (ho.run pins s1 σ H1 _ I1 q1) fun u s2 ⟨x, H2, I2, rx, p, z, b, ex, ey, ⟨es, n, r, hl, hk, low, e, eb⟩, q2⟩ => ?_
  subst ex ey eb
  obtain rfl : u = Value.ref p := rx
  obtain ⟨t, rfl⟩ := (show ∃ t, iv = Value.str z t from ry)
  have hm := PySem.W.mapOf_K (prog := X.prog) (w := X.w) I2.kIn hl hk
  refine wpAny_notIn_of (strKind_is X.prog X.w z t) low hm ?_
  rw [PySem.W.find_K hl e]
  exact ⟨.bl (!r.isSome), H2, I2.tok _, rfl, q2⟩
end
end L2
namespace Vs
open PySem PySem.Spec PyProof.Rows L2
section
variable {X : Cx} {W : WX} {a b : Expr} {f g : Env → R D} {pos : Pos} {name : Str} {tb : List (Str × D)}
/-- the dict of the module that has this name: its texts and what they stand for -/
def KdM (K : PySem.W.Frag) (w : World) (name : Str) (tb : List (Str × D)) : Prop := ∀ p, NameK K name p → (∀ z, KHas K w p z (tb.lookup z).isSome) ∧ ∀ z d, tb.lookup z = some d → ∃ v, KDct K w p z v ∧ ∀ H, Rd K H v d
def kninD (name : Str) (tb : List (Str × D)) (k d : D) : R D := match k, d with
  | .str z, .fn x => if x = name then .ok (.bl (!(tb.lookup z).isSome)) else .st
  | _, _ => .st
def kixD (name : Str) (tb : List (Str × D)) (d k : D) : R D := match d, k with
  | .fn x, .str z => if x = name then (match tb.lookup z with | some e => .ok e | none => .st) else .st
  | _, _ => .st
theorem tKn_of (T : KdM X.K X.w name tb) {σ : L2.St} {H : Hp} {Q : VK} (q : tG X.K X.mg W (op2 (kninD name tb) f g) σ H Q) : tKHas X.K X.w true (tF X.K X.mg W f) (tF X.K X.mg W g) σ H Q := by
  obtain ⟨ρ, re, o⟩ := q
  refine ⟨ρ, re, (Out.bind o).mono fun k _ q0 v H1 s1 r1 => ⟨ρ, re.mono s1, ((Out.bind q0).up s1).mono fun d _ q w H2 s2 r2 => ?_⟩⟩
  clear q0
  unfold kninD at q
  split at q
  · split at q
    · rename_i e
      subst e
      cases r1
      cases r2 with
      | fn hN => exact ⟨_, _, _, rfl, rfl, (T _ hN).1 _, q _ H2 [] (s1.trans s2) (.bl _) (fun _ h => nomatch h)⟩
    · exact q.elim
  · exact q.elim
theorem ve_kix (T : KdM X.K X.w name tb) (ha : VE X W a f) (hb : VE X W b g) (hs : PlainIx b) : VE X W (.Subscript a b pos) (op2 (kixD name tb) f g) :=
  ⟨peW (pe_ix ix_kdict ha.pe hb.pe hs) fun σ H Q ⟨ρ, re, o⟩ => ⟨ρ, re, (Out.bind o).mono fun d _ q0 v H1 s1 r1 => ⟨ρ, re.mono s1, ((Out.bind q0).up s1).mono fun e _ q w H2 s2 r2 => by
    clear q0
    unfold kixD at q
    split at q
    · split at q
      · rename_i e0
        subst e0
        split at q
        · rename_i e1
          cases r1 with
          | fn hN =>
            cases r2
            obtain ⟨u, k1, k2⟩ := (T _ hN).2 _ _ e1
            exact ⟨_, _, u, rfl, rfl, k1, q u H2 (s1.trans s2) (k2 H2)⟩
        · exact q.elim
      · exact q.elim
    · exact q.elim⟩⟩⟩
theorem vt_knin (T : KdM X.K X.w name tb) (ha : VE X W a f) (hb : VE X W b g) (hm : behindInMarks .NotIn b = false) : VT X W (.Compare a [.NotIn] [b] pos) (boolR (op2 (kninD name tb) f g)) :=
  ⟨ptW (pt_cmp (pc_knin ha.pe hb.pe) hm) fun σ H Q ⟨ρ, re, o⟩ => tKn_of (Q := fun v H' => ∃ k, v = .bl k ∧ Q k H') T ⟨ρ, re, (boolR_out o).mono fun d _ ⟨k, e, q⟩ v H1 A s1 f1 n1 => by subst e; cases f1; exact ⟨k, rfl, q H1 s1⟩⟩⟩
end
/-! ### what stands in the program's own part -/
def RdK (K : PySem.W.Frag) (u : Value) (d : D) : Prop := ∃ v, RelV v u ∧ ∀ H, Rd K H v d
def RdsK (K : PySem.W.Frag) (l : List Value) (ds : List D) : Prop := ∃ vs, Vals vs l ∧ ∀ H, Rds K H vs ds
theorem rdK_int {K : PySem.W.Frag} {i : Int} {t : Tok} : RdK K (.int i t) (.int i) := ⟨.int i, ⟨t, rfl⟩, fun _ => .int i⟩
theorem rdsK_nil {K : PySem.W.Frag} : RdsK K [] [] := ⟨[], .nil, fun _ => .nil⟩
theorem rdsK_cons {K : PySem.W.Frag} {u : Value} {l : List Value} {d : D} {ds : List D} (h : RdK K u d) (r : RdsK K l ds) : RdsK K (u :: l) (d :: ds) := by
  obtain ⟨v, h1, h2⟩ := h
  obtain ⟨vs, r1, r2⟩ := r
  exact ⟨v :: vs, .cons h1 r1, fun H => .cons (h2 H) (r2 H)⟩
theorem rdK_tup {K : PySem.W.Frag} {a : Addr} {od : Option Addr} {its : Array Value} {n : Nat} {sl : Array (Option Value)} {ds : List D} (h : K.lookup a = some ⟨.type "tuple", od, .seq its n, sl⟩) (r : RdsK K its.toList ds) (hs : ds.length ≤ sizeLine := by decide) (ne : ds.length ≠ 2 := by decide) : RdK K (.ref a) (.tup ds) := by
  obtain ⟨vs, r1, r2⟩ := r
  have e : its.size = vs.length := by rw [r1.length, Array.length_toList]
  have e2 : vs.length = ds.length := (r2 (fun _ => none)).length
  exact ⟨.ref a, rfl, fun H => .tup (.inr ⟨_, its, n, h, rfl, rfl, by rw [e, e2]; exact hs, r1, .inl (by rw [e2]; exact ne)⟩) (r2 H)⟩
/-- a pair whose first part is no key -/
theorem rdK_tup2 {K : PySem.W.Frag} {a b : Addr} {od : Option Addr} {its : Array Value} {n : Nat} {sl : Array (Option Value)} {d : D} {ds : List D} (h : K.lookup a = some ⟨.type "tuple", od, .seq its n, sl⟩) (h0 : its.toList.head? = some (.ref b)) (r : RdsK K its.toList ds) (hs : ds.length ≤ sizeLine := by decide) : RdK K (.ref a) (.tup ds) := by
  obtain ⟨vs, r1, r2⟩ := r
  have e : its.size = vs.length := by rw [r1.length, Array.length_toList]
  have e2 : vs.length = ds.length := (r2 (fun _ => none)).length
  refine ⟨.ref a, rfl, fun H => .tup (.inr ⟨_, its, n, h, rfl, rfl, by rw [e, e2]; exact hs, r1, .inr ?_⟩) (r2 H)⟩
  generalize its.toList = l at r1 h0
  cases r1 with
  | nil => cases h0
  | @cons v u vs l h r =>
    cases h0
    cases v with
    | ref c => exact ⟨c, List.mem_cons_self⟩
    | non => cases h
    | bl _ => cases h
    | int _ => obtain ⟨_, h⟩ := h; cases h
    | str _ => obtain ⟨_, h⟩ := h; cases h
    | byt _ => obtain ⟨_, h⟩ := h; cases h
    | flt _ => obtain ⟨_, h⟩ := h; cases h
    | ty _ => cases h
inductive KRow (K : PySem.W.Frag) (P : Params) : List DictEntry → List (Str × D) → Prop
  | nil : KRow K P [] []
  | cons {e : DictEntry} {x : Str} {t : Tok} {d : D} {r : List DictEntry} {tb : List (Str × D)} : e.key = .str x t → e.hash = PyData.keyHash P x → RdK K e.val d → KRow K P r tb → KRow K P (e :: r) ((x, d) :: tb)
theorem KRow.lit {K : PySem.W.Frag} {P : Params} {es : List DictEntry} {tb : List (Str × D)} (h : KRow K P es tb) : PySem.W.KeysLit P es := by
  induction h with
  | nil => trivial
  | cons h1 h2 _ _ ih => exact ⟨⟨_, _, h1, h2⟩, ih⟩
theorem KRow.find {K : PySem.W.Frag} {P : Params} {es : List DictEntry} {tb : List (Str × D)} (h : KRow K P es tb) (z : Str) : es.any (·.refKey) = false ∧ match es.find? (·.key.isStr z), tb.lookup z with
    | some e, some d => RdK K e.val d
    | none, none => True
    | _, _ => False := by
  induction h with
  | nil => exact ⟨rfl, trivial⟩
  | @cons e x t d r tb h1 h2 h3 _ ih =>
    refine ⟨?_, ?_⟩
    · rw [List.any_cons, ih.1, Bool.or_false]
      unfold DictEntry.refKey
      rw [h1]
    · have hk : e.key.isStr z = (x == z) := by rw [h1]; rfl
      rw [List.find?_cons, List.lookup_cons, hk]
      by_cases q : z = x
      · subst q
        rw [beq_self_eq_true]
        exact h3
      · rw [beq_eq_false_iff_ne.mpr q, beq_eq_false_iff_ne.mpr (Ne.symm q)]
        exact ih.2
def KdK (K : PySem.W.Frag) (w : World) (name : Str) (tb : List (Str × D)) : Prop := ∃ p es n, PySem.W.nsIn K mainGlobals name = some (some (.ref p)) ∧ K.lookup p = some ⟨.type "dict", none, .dict es n, #[]⟩ ∧ KRow K w.params es.toList tb ∧ (p == sysModules) = false
theorem kdK_mk {K : PySem.W.Frag} {w : World} {name : Str} {tb : List (Str × D)} {p : Addr} {es : Array DictEntry} {n : Nat} (a : PySem.W.nsIn K mainGlobals name = some (some (.ref p))) (b : K.lookup p = some ⟨.type "dict", none, .dict es n, #[]⟩) (c : KRow K w.params es.toList tb) (d : (p == sysModules) = false) : KdK K w name tb := ⟨p, es, n, a, b, c, d⟩
theorem kdM_of {K : PySem.W.Frag} {w : World} {name : Str} {tb : List (Str × D)} (h : KdK K w name tb) : KdM K w name tb := by
  obtain ⟨p, es, n, h1, h2, h3, h4⟩ := h
  intro q hq
  unfold NameK at hq
  rw [h1] at hq
  cases hq
  have ns : ∀ z, PySem.W.nsIn K p z = match es.toList.find? (·.key.isStr z) with | some e => some (some e.val) | none => some none := fun z => by
    unfold PySem.W.nsIn
    rw [h2]
    simp only
    rw [(h3.find z).1]
    rfl
  refine ⟨fun z => ?_, fun z d hd => ?_⟩
  · have h5 := (h3.find z).2
    have h6 := ns z
    cases e1 : es.toList.find? (·.key.isStr z) with
    | none =>
      rw [e1] at h5 h6
      cases e2 : tb.lookup z with
      | none => exact ⟨es, n, none, h2, h3.lit, h4, h6, rfl⟩
      | some d => rw [e2] at h5; exact h5.elim
    | some e =>
      rw [e1] at h5 h6
      cases e2 : tb.lookup z with
      | none => rw [e2] at h5; exact h5.elim
      | some d => exact ⟨es, n, _, h2, h3.lit, h4, h6, rfl⟩
  · have h5 := (h3.find z).2
    have h6 := ns z
    rw [hd] at h5
    cases e1 : es.toList.find? (·.key.isStr z) with
    | none => rw [e1] at h5; exact h5.elim
    | some e =>
      rw [e1] at h5 h6
      obtain ⟨v, r1, r2⟩ := h5
      exact ⟨v, ⟨es, n, _, h2, h3.lit, h6, r1⟩, r2⟩
theorem kdFn_of {K : PySem.W.Frag} {w : World} {h : Heap} {mg : Str → Option Value} {name : Str} {tb : List (Str × D)} (X : K.In h) (G : h.Ns mainGlobals mg) (d : KdK K w name tb) : FnM K mg name := by
  obtain ⟨p, es, n, h1, _⟩ := d
  exact ⟨p, PySem.W.mg_of X G h1, h1⟩
end Vs

namespace Vs
open PySem PySem.Spec PyProof.Rows L2

/-! ### x in a list or tuple of flat things -/
def flatD : D → Bool
  | .non => true
  | .bl _ => true
  | .int _ => true
  | .str _ => true
  | .lst _ => false
  | .fz _ => false
  | .tup _ => false
  | .dic _ _ _ => false
  | .fn _ => false
  | .exc _ _ => false
  | .cl _ _ => false
  | .obj _ _ _ => false
def vD : D → V
  | .bl b => .bl b
  | .int i => .int i
  | .str x => .str x
  | _ => .non
def itemsO : D → Option (List D)
  | .lst xs => some xs
  | .tup xs => some xs
  | _ => none
def inSeqD (neg : Bool) (k d : D) : R D := match itemsO d with
  | some xs => if flatD k = true ∧ xs.all flatD = true then .ok (.bl (if neg then !inV (vD k) (xs.map vD) else inV (vD k) (xs.map vD))) else .st
  | none => .st
theorem rd_flat {K : PySem.W.Frag} {H : Hp} {v : V} {d : D} (r : Rd K H v d) (f : flatD d = true) : v = vD d ∧ flatV v = true := by
  cases r <;> first | exact ⟨rfl, rfl⟩ | cases f
theorem rds_flat {K : PySem.W.Frag} {H : Hp} : ∀ {vs : List V} {ds : List D}, Rds K H vs ds → ds.all flatD = true → vs = ds.map vD ∧ vs.all flatV = true
  | _, _, .nil, _ => ⟨rfl, rfl⟩
  | _, _, .cons h r, f => by
    rw [List.all_cons, Bool.and_eq_true] at f
    obtain ⟨e1, f1⟩ := rd_flat h f.1
    obtain ⟨e2, f2⟩ := rds_flat r f.2
    exact ⟨by rw [List.map_cons, ← e1, ← e2], by rw [List.all_cons, f1, f2]; rfl⟩
theorem nx_inSeq {neg : Bool} : NoEx2 (inSeqD neg) := fun d e c h => by
  unfold inSeqD at h
  split at h
  · split at h <;> cases h
  · cases h
section
variable {X : Cx}
theorem d_inSeq {neg : Bool} : OpD X (rIn X.K neg) (inSeqD neg) := fun x y d e H Q z rx ry h q => by
  unfold inSeqD at h
  cases he : itemsO e with
  | none => rw [he] at h; cases h
  | some xs =>
    rw [he] at h
    simp only at h
    split at h
    · rename_i c
      cases h
      obtain ⟨e1, f1⟩ := rd_flat rx c.1
      cases e with
      | lst ys =>
        cases he
        cases ry with
        | lst h2 r2 =>
          obtain ⟨e2, f2⟩ := rds_flat r2 c.2
          subst e1
          subst e2
          exact ⟨_, _, rfl, .inl h2, f1, f2, q _ H [] (Same.refl H) (.bl _) (fun _ h => nomatch h)⟩
      | tup ys =>
        cases he
        cases ry with
        | tup h2 r2 =>
          obtain ⟨e2, f2⟩ := rds_flat r2 c.2
          subst e1
          subst e2
          exact ⟨_, _, rfl, .inr h2.sq, f1, f2, q _ H [] (Same.refl H) (.bl _) (fun _ h => nomatch h)⟩
      | _ => cases he
    · cases h
end

/-! ### s.ljust(n, c) -/
def ljustA (a : Str) : List D → R D
  | [.int i, .str z] => if PadOk i = true ∧ z.length = 1 then .ok (.str (Txt.ljustF a i (z.cps.getD 0 0))) else .st
  | _ => .st
def ljustE (f : Env → R D) (fs : Env → R (List D)) (ρ : Env) : R D := (f ρ).bind fun d => match d with
  | .str a => (fs ρ).bind (ljustA a)
  | _ => .st
section
variable {X : Cx} {W : WX} {o e c : Expr} {f : Env → R D} {fs : Env → R (List D)} {apos pos : Pos}
theorem mt_ljustF : MtR X "str.ljust" (fun x xs H Q => ∃ (a : Str) (i : Int) (z : Str), x = .str a ∧ xs = [.int i, .str z] ∧ PadOk i = true ∧ z.length = 1 ∧ Q (.str (Txt.ljustF a i (z.cps.getD 0 0))) H) := by
  intro pins s σ H x xs v us Q I rx rs q
  obtain ⟨a, i, z, rfl, rfl, hp, hz, q⟩ := q
  obtain ⟨t, rfl⟩ := rx
  cases rs with
  | cons r1 rs =>
    cases rs with
    | cons r2 rs =>
      cases rs
      obtain ⟨u, rfl⟩ := r1
      obtain ⟨y, rfl⟩ := r2
      exact ljust_fill hp hz fun t' k => ⟨.str _, H, I.tok k, ⟨t', rfl⟩, q⟩
theorem vg_ljust (ho : VE X W o f) (ha : VA X W [e, c] fs)
    (hbase : attributeBase o "ljust" X.env (eval o X.env) = eval o X.env := by rfl)
    (hfew : ((backTo pos (starEach [e, c] X.env)).all (fun x => !x.1) && (backToKw pos (keywordEach [] X.env)).all (fun x => x.1.isSome)
      && decide (([e, c]).length + ([] : List Keyword).length + (if ([] : List Keyword).isEmpty then 0 else 1) < 30)) = true := by rfl)
    (hline : (apos.endLine == pos.line) = true := by rfl) (hs : starEach [e, c] X.env = (false, eval e X.env) :: starEach [c] X.env := by rfl) (hplain : (backTo pos (starEach [c] X.env)).any (·.1) = false := by rfl) :
    VG X W (.Call (.Attribute o "ljust" apos) [e, c] [] pos) (ljustE f fs) :=
  ⟨peW (pe_bm PySem.F.plainAttrs_str PySem.F.slot_str_ljust PySem.F.type_str_ljust mt_ljustF ho.pe ha.pa hbase hfew hline hs hplain) fun σ H Q ⟨ρ, re, q⟩ => ⟨ρ, re, (Out.bind q).mono fun d _ q v H1 s1 r1 => by
    cases d with
    | str a =>
      cases r1
      refine ⟨rfl, ρ, re.mono s1, ((Out.bind (show Out X.mg W σ H ((fs ρ).bind (ljustA a)) _ from q)).up s1).mono fun ds _ q w H2 s2 r2 => ?_⟩
      unfold ljustA at q
      split at q
      · split at q
        · rename_i i z _ hc
          obtain ⟨u1, u2, rfl, k1, k2⟩ := rds2 r2
          cases k1
          cases k2
          exact ⟨a, i, z, rfl, rfl, hc.1, hc.2, q _ H2 [] (s1.trans s2) (.str _) (fun _ h => nomatch h)⟩
        · exact q.elim
      · exact q.elim
    | _ => exact q.elim⟩⟩
end

/-! ### ord(c), s.upper() -/
def ordD : List D → R D
  | [.str x] => if x.length = 1 then .ok (.int (x.cps.getD 0 0 : Nat)) else .st
  | _ => .st
theorem nx_ord : NoEx1 ordD := fun ds c h => by unfold ordD at h; split at h <;> first | cases h | (split at h <;> cases h)
theorem cb_ord {X : Cx} : CbD X (fun xs H Q => ∃ x, xs = [.str x] ∧ x.length = 1 ∧ Q (.int (x.cps.getD 0 0 : Nat)) H) ordD := fun vs ds H Q z r h q => by
  unfold ordD at h
  split at h
  · obtain ⟨v, rfl, h1⟩ := rds1 r
    split at h
    · rename_i c
      cases h
      cases h1
      exact ⟨_, rfl, c, q _ H [] (Same.refl H) (.int _) (fun _ h => nomatch h)⟩
    · cases h
  · cases h
def upperG (a : Str) : R D := if a.length ≤ 5592405 then .ok (.str (Txt.upper a)) else .st
theorem vg_upper {X : Cx} {W : WX} {o : Expr} {f : Env → R D} {apos pos : Pos} (ho : VE X W o f) (hbase : attributeBase o "upper" X.env (eval o X.env) = eval o X.env := by rfl) (hline : (apos.endLine == pos.line) = true := by rfl) :
    VG X W (.Call (.Attribute o "upper" apos) [] [] pos) (m0E upperG f) :=
  ⟨peW (pe_upper ho.pe hbase hline) fun σ H Q ⟨ρ, re, q⟩ => ⟨ρ, re, (Out.bind q).mono fun d _ q v H1 s1 r1 => by
    cases d with
    | str a =>
      cases r1
      refine ⟨⟨a, rfl⟩, ?_⟩
      have q : Out X.mg W σ H (upperG a) _ := q
      unfold upperG at q
      by_cases c : a.length ≤ 5592405
      · rw [if_pos c] at q
        exact ⟨a, rfl, rfl, c, q _ H1 [] s1 (.str _) (fun _ h => nomatch h)⟩
      · rw [if_neg c] at q
        exact q.elim
    | _ => exact q.elim⟩⟩
end Vs

namespace Vs
open PySem PySem.Spec PyProof.Rows L2

/-! ### x.append(y): y's list is handed over -/
def appM (i j : Nat) (ρ : Env) : Sr := match ρ[i]?, ρ[j]? with
  | some (some (.lst ds)), some (some d) => if ds.length < sizeLine then .nx ((ρ.set j none).set i (some (.lst (ds ++ [d])))) else .st
  | _, _ => .st
theorem vs_appendM {X : Cx} {W : WX} {own own' : List Nat} {ol : Ol} {st : Stmt} (i j : Nat) (p : PS X st (tDrop (tBM X.K "list" rAppend (tVar i) (tCons (tVar j) tNil)))) (hij : i ≠ j := by decide) (hi : i ∈ own := by decide) (hj : j ∈ own := by decide)
    (w : own' = own.filter (fun k => decide (k ≠ j)) := by rfl) : VS X W own own' ol st (appM i j) := ⟨psW p fun D σ H ⟨B, ρ, x, pn, q⟩ => by
  unfold appM at q
  split at q
  · rename_i ds d ei ej
    by_cases hz : ds.length < sizeLine
    rotate_left
    · rw [if_neg hz] at q; exact q.elim
    rw [if_pos hz] at q
    obtain ⟨S, F, b, y⟩ := x
    obtain ⟨v, h1, h2, _⟩ := y.val i _ ei
    obtain ⟨u, g1, g2, _⟩ := y.val j _ ej
    obtain ⟨pa, vs, A', rfl, eF, hp, r, n⟩ := (h2 hi).list
    have fj := g2 hj
    refine ⟨_, h1, .inl ⟨rfl, _, .inl (.inl hp)⟩, u, g1, pa, vs, u, rfl, rfl, hp, by rw [r.length]; exact hz, ?_⟩
    have w2 : ∀ k, k ∈ own' ↔ k ∈ own ∧ k ≠ j := fun k => by rw [w, List.mem_filter, decide_eq_true_eq]
    have y1 : Stx own' X.K S F (ρ.set j none) σ H := y.drop w2
    have mp : pa ∈ F i := by rw [eF]; exact List.mem_cons_self
    have hpq : ∃ o, H pa = some o ∧ ¬ Stt o := ⟨_, hp, fun z => (show False from z)⟩
    have hi' : i ∈ own' := (w2 i).mpr ⟨hi, hij⟩
    have r1 : Fus X.K H (vs ++ [u]) (ds ++ [d]) (A' ++ (F j ++ [])) := r.app (.cons fj .nil fun _ _ z => nomatch z) fun a ha hb => by
      rw [List.append_nil] at hb
      exact y.dis i hi j hj hij a (by rw [eF]; exact List.mem_cons_of_mem _ ha) hb
    rw [List.append_nil] at r1
    have n2 : pa ∉ A' ++ F j := fun z => (List.mem_append.mp z).elim n fun z => y.dis i hi j hj hij pa mp z
    refine q _ _ ⟨_, _, b, y1.mut hi' h1 hpq (y.out i hi pa mp).1 (fun k m ne z => y.dis k ((w2 k).mp m).1 i hi ne pa z mp) (fun z => (show False from z)) (fu_relist hpq r1 n2) fun a ha => ?_⟩ pn
    have old : ∀ a, a ∈ F i → S a = none ∧ ∀ k ∈ own', k ≠ i → a ∉ F k := fun a hm => ⟨(y.out i hi a hm).1, fun k m ne z' => y.dis k ((w2 k).mp m).1 i hi ne a z' hm⟩
    rcases List.mem_cons.mp ha with z | z
    · rw [z]
      exact old pa mp
    · rcases List.mem_append.mp z with z | z
      · exact old a (by rw [eF]; exact List.mem_cons_of_mem _ z)
      · exact ⟨(y.out j hj a z).1, fun k m ne z' => y.dis k ((w2 k).mp m).1 j hj ((w2 k).mp m).2 a z' z⟩
  · exact q.elim⟩
end Vs

namespace L2
open PySem PySem.Spec PyProof.Rows
section
variable {P : Program} {w : World} {K : PySem.W.Frag}
/-- a tuple at a and a list at b as they stand at each turn, the items in new pairs -/
def Itm (K : PySem.W.Frag) (a b : Addr) : It :=
  ⟨fun i H => ∃ (xs ys : List V) (x y : V), SqT K H a xs ∧ SqL K H b ys ∧ xs[i]? = some x ∧ ys[i]? = some y,
    fun i H v H' => ∃ T x y, v = .ref T ∧ H T = none ∧ H' = upd H T (.tup [x, y]) ∧ (∀ xs, SqT K H a xs → xs[i]? = some x) ∧ ∀ ys, SqL K H b ys → ys[i]? = some y,
    fun i H => ∃ xs ys : List V, SqT K H a xs ∧ SqL K H b ys ∧ (xs.length ≤ i ∨ ys.length ≤ i)⟩
/-- what a tuple's iterator draws at the place where it stands, perhaps behind the end -/
theorem draws_atT {A : Around} (hh : A.handled = none) (it l : Addr) (hne : l ≠ it) (items : Array Value) (i : Nat) (h : Heap) (hit : h.IsTupleIter it l i) (hl : h.IsTuple l items) :
    ∃ (n : Nat) (Pd : Nat → Value → Prop) (St : Nat → Heap → Prop), Draws P w A it [it, l] n Pd St ∧ St i h ∧ i ≤ n ∧ (items.size ≤ i → i = n) := by
  by_cases q : i < items.size
  · exact ⟨_, _, _, Draws.tuple hh it l hne items, ⟨hit, hl⟩, Nat.le_of_lt q, fun z => by omega⟩
  · refine ⟨i, fun _ _ => True, fun j h => j = i ∧ h.IsTupleIter it l i ∧ h.IsTuple l items, ⟨?_, ?_, ?_, ?_⟩, ⟨rfl, hit, hl⟩, Nat.le_refl _, fun _ => rfl⟩
    · exact fun _ _ st => let ⟨o, ho, _⟩ := st.2.1; ⟨o, ho⟩
    · exact fun _ _ _ st hk => ⟨st.1, st.2.1.at fun o e => hk it (by simp) o e, st.2.2.at fun o e => hk l (by simp) o e⟩
    · exact fun j s Q E hi st hQ => absurd st.1 (Nat.ne_of_lt hi)
    · exact fun s Q E st hE => wpAny_nextOf_tuple_end hh st.2.1 st.2.2 (by simp; omega) hE
theorem turn_zipM {elts : List Expr} {kk : Nat} {tpos : Pos} {a b z TI TO i1 i2 : Addr} (D : ZipSep2 z TI TO i1 i2 [i1, a] [i2, b]) (na : a ≠ i1) (nb : b ≠ i2) :
    Turn P w K (.Tuple elts kk tpos) (Itm K a b) [z, TI, TO, i1, i2] z (fun i h => IsZip h z TI TO .none ∧ IsTupOf2 h TI (.ref i1) (.ref i2) ∧ (∃ x y, IsTupOf2 h TO x y) ∧ h.IsTupleIter i1 a i ∧ h.IsListIter i2 b i) where
  mem := by simp
  obj := fun i h st d hd => by
    obtain ⟨hz, hTI, ⟨x, y, hTO⟩, ⟨o1, e1, _, d1⟩, ⟨o2, e2, _, d2⟩⟩ := st
    have e' : d = z ∨ d = TI ∨ d = TO ∨ d = i1 ∨ d = i2 := by simpa using hd
    rcases e' with q | q | q | q | q
    · rw [q]; exact ⟨_, hz, fun v q => nomatch q⟩
    · rw [q]; exact ⟨_, hTI, fun v q => nomatch q⟩
    · rw [q]; exact ⟨_, hTO, fun v q => nomatch q⟩
    · rw [q]; exact ⟨o1, e1, fun v q => by rw [d1] at q; cases q⟩
    · rw [q]; exact ⟨o2, e2, fun v q => by rw [d2] at q; cases q⟩
  keep := fun i h h' st k => by
    obtain ⟨hz, hTI, ⟨x, y, hTO⟩, h1, h2⟩ := st
    exact ⟨k z (by simp) _ hz, k TI (by simp) _ hTI, ⟨x, y, k TO (by simp) _ hTO⟩, h1.at fun o q => k i1 (by simp) o q, h2.at fun o q => k i2 (by simp) o q⟩
  item := by
    intro X hP hw hK hc i pins s σ H E I hf st hg
    subst hP hw hK
    obtain ⟨hz, hTI, ⟨x0, y0, hTO⟩, h1, h2⟩ := st
    obtain ⟨xs, ys, x, y, hqx, hqy, hx, hy⟩ := hg
    obtain ⟨its, rv, p, _⟩ := I.tuple hqx
    obtain ⟨its2, rv2, p2, _⟩ := I.list hqy
    obtain ⟨v1, hv1, r1⟩ := rv.get hx
    obtain ⟨v2, hv2, r2⟩ := rv2.get hy
    have hzl : z < s.heap.objs.size := Heap.lt_size hz
    have hh : X.A.in1.handled = none := I.ok.hd hc
    have l1 : i < its.toArray.size := by have := (List.getElem?_eq_some_iff.mp hv1).1; simpa using this
    have l2 : i < its2.toArray.size := by have := (List.getElem?_eq_some_iff.mp hv2).1; simpa using this
    refine wpAny_pyNext_zipD2_item D (Draws.tuple hh i1 a na its.toArray) (Draws.list hh i2 b nb its2.toArray) hz hTI hTO ⟨h1, p⟩ ⟨h2, p2.isList⟩ l1 l2 fun w1 w2 h' tk e1 e2 z' TO' d1 d2 hT hsz hk => ?_
    have e1 : v1 = w1 := by simpa [hv1] using e1
    have e2 : v2 = w2 := by simpa [hv2] using e2
    subst e1 e2
    refine ⟨_, rfl, wpAny_letOwnedTupleGo_zip (s := { s with heap := h', toks := tk }) z' fun h'' z'' sb => ?_⟩
    have hT2 : h''.get? s.heap.objs.size = some { cls := .type "tuple", data := .seq #[v1, v2] } := (sb.2 _ (Nat.ne_of_gt hzl)).trans hT
    have new : ObjOk X.prog X.w (upd H s.heap.objs.size (.tup [x, y])) h'' s.heap.objs.size (.tup [x, y]) :=
      ⟨by show 2 ≤ sizeLine; decide, [v1, v2], .cons r1 (.cons r2 .nil), ⟨_, hT2, rfl, _, rfl⟩⟩
    have I1 : Inv X pins σ (upd H s.heap.objs.size (.tup [x, y])) { s with heap := h'', toks := tk } :=
      I.turnedNew (t' := tk) (ch := [z, TI, TO, i1, i2]) (fun d o hb q => (sb.2 d (fun q' => hb (by simp [q']))).trans (hk d o (fun q' => hb (by simp [q'])) (fun q' => hb (by simp [q'])) (fun q' => hb (by simp [q'])) (fun q' => hb (by simp [q'])) q)) hf (Nat.le_refl _) new
    refine ⟨.ref s.heap.objs.size, _, I1, rfl, ⟨_, x, y, rfl, I.hok.fresh (Nat.le_refl _), rfl, fun l hl => by rw [I.tuple_inj hl hqx]; exact hx, fun l hl => by rw [I.list_inj hl hqy]; exact hy⟩, ⟨z'', ?_, ⟨v1, v2, ?_⟩, ?_, ?_⟩, fun d hdm => ?_⟩
    · exact (sb.2 _ D.TIz).trans (hk _ _ D.TIz D.TITO D.TIi1 D.TIi2 hTI)
    · exact (sb.2 _ D.TOz).trans TO'
    · exact d1.1.at fun o q => (sb.2 _ D.zi1.symm).trans q
    · exact d2.1.at fun o q => (sb.2 _ D.zi2.symm).trans q
    · have hlt : d < s.heap.objs.size := by
        have e' : d = z ∨ d = TI ∨ d = TO ∨ d = i1 ∨ d = i2 := by simpa using hdm
        rcases e' with q | q | q | q | q
        · rw [q]; exact hzl
        · rw [q]; exact Heap.lt_size hTI
        · rw [q]; exact Heap.lt_size hTO
        · rw [q]; obtain ⟨_, e1, _⟩ := h1; exact Heap.lt_size e1
        · rw [q]; obtain ⟨_, e2, _⟩ := h2; exact Heap.lt_size e2
      rw [upd_ne (Nat.ne_of_lt hlt)]
      exact (hf d hdm).1
  done := by
    intro X hP hw hK hc i pins s σ H E I hf st hg
    subst hP hw hK
    obtain ⟨hz, hTI, ⟨x0, y0, hTO⟩, h1, h2⟩ := st
    obtain ⟨xs, ys, hqx, hqy, hend⟩ := hg
    obtain ⟨its, rv, p, _⟩ := I.tuple hqx
    obtain ⟨its2, rv2, p2, _⟩ := I.list hqy
    have l1 := rv.length
    have l2 := rv2.length
    have hh : X.A.in1.handled = none := I.ok.hd hc
    obtain ⟨n1, P1, S1, D1, s1, m1, k1⟩ := draws_atT (P := X.prog) (w := X.w) hh i1 a na its.toArray i s.heap h1 p
    obtain ⟨n2, P2, S2, D2, s2, m2, k2⟩ := draws_at (P := X.prog) (w := X.w) hh i2 b nb its2.toArray i s.heap h2 p2.isList
    have he : i = n1 ∨ i = n2 := by
      rcases hend with q | q
      · exact .inl (k1 (by simp; omega))
      · exact .inr (k2 (by simp; omega))
    exact wpAny_pyNext_zipD2_end D D1 D2 hz hTI hTO s1 s2 m1 m2 he fun h' tk hk => ⟨rfl, I.turnedL (t' := tk) (ch := [z, TI, TO, i1, i2]) (fun d o hb q =>
      hk d o (fun q' => hb (by simp [q'])) (fun q' => hb (by simp [q'])) (fun q' => hb (by simp [q'])) (fun q' => hb (by simp [q'])) q) hf⟩
  self := fun A i s Q E st h => wpAny_pyIter_zip st.1 h
def iZipM (K : PySem.W.Frag) (ta : TA) : TI := fun σ H R => ta σ H fun vs H1 => ∃ a b xs ys, vs = [.ref a, .ref b] ∧ SqT K H1 a xs ∧ SqL K H1 b ys ∧ R (Itm K a b) H1
theorem pi_zipM {X : Cx} {e e2 : Expr} {ta : TA} {p pos tpos : Pos} {elts : List Expr} {kk : Nat} (hg : Gl X "zip") (hm : X.mg "zip" = none) (ha : PA X [e, e2] ta)
    (hs : starEach [e, e2] X.env = (false, eval e X.env) :: starEach [e2] X.env := by rfl) (hpl : (backTo pos (starEach [e2] X.env)).any (·.1) = false := by rfl) :
    PI X (.Tuple elts kk tpos) (.Call (.Name "zip" p) [e, e2] [] pos) (iZipM X.K ta) := by
  refine ⟨fun pins s σ H R I h => ?_⟩
  refine Call_ (ld_blt I hg hm PyProof.Rows.boot_zip (PyProof.Rows.callWith_type1 (thn (ha.run pos pins s σ H _ I h) fun us s1 ⟨vs, H1, I1, r1, q1⟩ => ?_) hs hpl))
  obtain ⟨a, b, xs, ys, ex, hqx, hqy, q⟩ := q1
  subst ex
  cases r1 with
  | cons r rr =>
    cases rr with
    | cons r' rr =>
      cases rr
      cases r
      cases r'
      obtain ⟨its, rv, p1, _⟩ := I1.tuple hqx
      obtain ⟨its2, rv2, p2, _⟩ := I1.list hqy
      have la : a < s1.heap.objs.size := by obtain ⟨o1, ho1, _⟩ := id p1; exact Heap.lt_size ho1
      have lb : b < s1.heap.objs.size := p2.lt
      refine zip_begins2 (begins_tuple a its.toArray) (begins_list b its2.toArray) (show s1.heap.IsTuple a its.toArray from p1) p2.isList fun h' hz hTI hTO g1 g2 hsz hk => wpAny_pyIter_zip hz ?_
      have I2 : Inv X pins σ H1 { s1 with heap := h' } := I1.kept (t' := s1.toks) hk
      have D := zip_sep2 (N := s1.heap.objs.size) (fp1 := [a]) (fp2 := [b]) (fun x hx => by rw [List.mem_singleton.mp hx]; exact la) (fun x hx => by rw [List.mem_singleton.mp hx]; exact lb)
      refine ⟨s1.heap.objs.size + 4, [s1.heap.objs.size + 4, s1.heap.objs.size + 2, s1.heap.objs.size + 3, s1.heap.objs.size, s1.heap.objs.size + 1], _, _, H1, rfl, I2, turn_zipM D (Nat.ne_of_lt la) (Nat.ne_of_lt (Nat.lt_of_lt_of_le lb (Nat.le_add_right _ _))), ⟨hz, hTI, ⟨_, _, hTO⟩, ⟨_, g1, rfl, rfl⟩, ⟨_, g2, rfl, rfl⟩⟩, fun d hd => ?_, q⟩
      have e' : d = s1.heap.objs.size + 4 ∨ d = s1.heap.objs.size + 2 ∨ d = s1.heap.objs.size + 3 ∨ d = s1.heap.objs.size ∨ d = s1.heap.objs.size + 1 := by simpa using hd
      have hle : s1.heap.objs.size ≤ d := by
        rcases e' with z | z | z | z | z
        · rw [z]; exact Nat.le_add_right _ _
        · rw [z]; exact Nat.le_add_right _ _
        · rw [z]; exact Nat.le_add_right _ _
        · rw [z]; exact Nat.le_refl _
        · rw [z]; exact Nat.le_add_right _ _
      exact I1.fpOk hle (I1.hok.fresh hle)
end
end L2
namespace Vs
open PySem PySem.Spec PyProof.Rows L2
section
variable {X : Cx} {W : WX} {own : List Nat} {a b : Expr} {fs : Env → R (List D)} {p pos : Pos} {K : PySem.W.Frag} {S : Hp}
theorem it_zipM {a b : Addr} {vs ws : List V} {ds es : List D} (h : TpT K S a vs) (r : Rds K S vs ds) (h' : SqL K S b ws) (r' : Rds K S ws es) : IterOk K (Itm K a b) S (zipL ds es) := fun S1 H1 i s1 s2 => by
  have hq : SqT K H1 a vs := (seqT (s1.trans s2) h).sq
  have hq' : SqL K H1 b ws := (s1.trans s2).seq h'
  refine ⟨fun d hd => ?_, fun hl => ⟨vs, ws, hq, hq', by rw [r.length, r'.length]; rw [zipL_length] at hl; omega⟩⟩
  obtain ⟨x, y, h1, h2, rfl⟩ := zipL_get hd
  obtain ⟨v, hv, rv⟩ := r.get h1
  obtain ⟨w, hw, rw_⟩ := r'.get h2
  refine ⟨⟨vs, ws, v, w, hq, hq', hv, hw⟩, fun x H' y => ?_⟩
  obtain ⟨T, k1, k2, rfl, hT, rfl, y1, y2⟩ := y
  have e := y1 vs hq
  rw [hv] at e
  cases e
  have e := y2 ws hq'
  rw [hw] at e
  cases e
  have sn : Same H1 (upd H1 T (.tup [v, w])) := new_same hT
  exact ⟨sn, .tup (.inl (ext_stt (s2.trans sn) upd_same trivial)) (.cons (rv.mono (s1.trans (ext_s []))) (.cons (rw_.mono (s1.trans (ext_s []))) .nil))⟩
def zipM : List D → R (List D)
  | [.tup xs, .lst ys] => .ok (zipL xs ys)
  | _ => .st
theorem vi_zipM {elts : List Expr} {kk : Nat} {tpos : Pos} (hg : Gl X "zip") (hm : X.mg "zip" = none) (ha : VPs X W own [a, b] fs) (hs : starEach [a, b] X.env = (false, eval a X.env) :: starEach [b] X.env := by rfl) (hpl : (backTo pos (starEach [b] X.env)).any (·.1) = false := by rfl) :
    VI X W own (.Tuple elts kk tpos) (.Call (.Name "zip" p) [a, b] [] pos) (itR zipM fs) :=
  ⟨piW (pi_zipM hg hm ha.pa hs hpl) fun σ H Q ⟨ρ, S, F, st, o⟩ => ⟨ρ, S, F, st, (Out.bind o).mono fun ds _ q vs H' A s n r => by
    unfold zipM at q
    split at q
    · obtain ⟨v, w, rfl, h1, h2⟩ := rds2 r
      cases h1 with
      | tup h r1 =>
        cases h2 with
        | lst h' r' => exact ⟨_, _, _, _, rfl, (seqT (ext_h (st.sub.trans s) A) h).sq, (ext_h (st.sub.trans s) A).seq h', q _ H' A s n (it_zipM h r1 h' r')⟩
    · exact q.elim⟩⟩
end
end Vs

namespace Vs
open PySem PySem.Spec PyProof.Rows L2
/-! x is True -/
def isBD (d e : D) : R D := match d, e with
  | .bl a, .bl b => .ok (.bl (decide (a = b)))
  | _, _ => .st
def isNotBD (d e : D) : R D := match d, e with
  | .bl a, .bl b => .ok (.bl (!decide (a = b)))
  | _, _ => .st
theorem nx_isB : NoEx2 isBD := fun d e c h => by unfold isBD at h; split at h <;> cases h
theorem nx_isNotB : NoEx2 isNotBD := fun d e c h => by unfold isNotBD at h; split at h <;> cases h
section
variable {X : Cx}
theorem d_isB : OpD X (fun x y H Q => ∃ a b, x = .bl a ∧ y = .bl b ∧ Q (.bl (decide (a = b))) H) isBD := fun x y d e H Q z rx ry h q => by
  unfold isBD at h
  split at h
  · cases h
    cases rx
    cases ry
    exact ⟨_, _, rfl, rfl, q _ H [] (Same.refl H) (.bl _) (fun _ h => nomatch h)⟩
  · cases h
theorem d_isNotB : OpD X (fun x y H Q => ∃ a b, x = .bl a ∧ y = .bl b ∧ Q (.bl (!decide (a = b))) H) isNotBD := fun x y d e H Q z rx ry h q => by
  unfold isNotBD at h
  split at h
  · cases h
    cases rx
    cases ry
    exact ⟨_, _, rfl, rfl, q _ H [] (Same.refl H) (.bl _) (fun _ h => nomatch h)⟩
  · cases h
end
end Vs

namespace Vs
open PySem PySem.Spec PyProof.Rows L2

/-! ### frozen lists: read by anyone, changed by none, held without owning -/
mutual
def thaw : D → D
  | .fz xs => .lst (thaws xs)
  | .lst xs => .lst (thaws xs)
  | .tup xs => .tup (thaws xs)
  | .non => .non
  | .bl b => .bl b
  | .int i => .int i
  | .str x => .str x
  | .dic t ks vs => .dic t ks vs
  | .fn x => .fn x
  | .exc c a => .exc c a
  | .cl f F => .cl f F
  | .obj c ks vs => .obj c ks vs
def thaws : List D → List D
  | [] => []
  | x :: xs => thaw x :: thaws xs
end
mutual
def fzD : D → D
  | .fz xs => .fz (fzDs xs)
  | .lst xs => .fz (fzDs xs)
  | .tup xs => .tup (fzDs xs)
  | .non => .non
  | .bl b => .bl b
  | .int i => .int i
  | .str x => .str x
  | .dic t ks vs => .dic t ks vs
  | .fn x => .fn x
  | .exc c a => .exc c a
  | .cl f F => .cl f F
  | .obj c ks vs => .obj c ks vs
def fzDs : List D → List D
  | [] => []
  | x :: xs => fzD x :: fzDs xs
end
section
variable {K : PySem.W.Frag} {H H' S : Hp}
mutual
theorem Rd.thaw : ∀ {v : V} {d : D}, Rd K H v d → Rd K H v (Vs.thaw d)
  | _, _, .non => by rw [Vs.thaw]; exact .non
  | _, _, .bl b => by rw [Vs.thaw]; exact .bl b
  | _, _, .int i => by rw [Vs.thaw]; exact .int i
  | _, _, .str x => by rw [Vs.thaw]; exact .str x
  | _, _, .fn n => by rw [Vs.thaw]; exact .fn n
  | _, _, .exc c a => by rw [Vs.thaw]; exact .exc c a
  | _, _, .cl h1 h2 => by rw [Vs.thaw]; exact .cl h1 h2
  | _, _, .lst h r => by rw [Vs.thaw]; exact .lst h (Rds.thaw r)
  | _, _, .fz h r => by rw [Vs.thaw]; exact .lst (.inl (.inr ⟨_, h⟩)) (Rds.thaw r)
  | _, _, .tup h r => by rw [Vs.thaw]; exact .tup h (Rds.thaw r)
  | _, _, .dk h q r => by rw [Vs.thaw]; exact .dk h q r
  | _, _, .dt h q r => by rw [Vs.thaw]; exact .dt h q r
  | _, _, .obj h h2 n q r => by rw [Vs.thaw]; exact .obj h h2 n q r
theorem Rds.thaw : ∀ {vs : List V} {ds : List D}, Rds K H vs ds → Rds K H vs (Vs.thaws ds)
  | _, _, .nil => by rw [Vs.thaws]; exact .nil
  | _, _, .cons h r => by rw [Vs.thaws]; exact .cons (Rd.thaw h) (Rds.thaw r)
end
mutual
/-- what is to be frozen stands in lists -/
theorem Fu.lists : ∀ {v : V} {d : D} {A : List Addr}, Fu K H v d A → immD (fzD d) = true → ∀ a ∈ A, ∃ vs, H a = some (.lst vs)
  | _, _, _, .non, _, _, h => nomatch h
  | _, _, _, .bl b, _, _, h => nomatch h
  | _, _, _, .int i, _, _, h => nomatch h
  | _, _, _, .str x, _, _, h => nomatch h
  | _, _, _, .fn n, _, _, h => nomatch h
  | _, _, _, .exc c a, _, _, h => nomatch h
  | _, _, _, .cl _ _, _, _, h => nomatch h
  | _, _, _, .lst h r n, m, a, ha => by
    rw [fzD, immD] at m
    rcases List.mem_cons.mp ha with e | ha
    · exact ⟨_, e ▸ h⟩
    · exact Fus.lists r m a ha
  | _, _, _, .fz h r, _, _, ha => nomatch ha
  | _, _, _, .tup h r, m, a, ha => by
    rw [fzD, immD] at m
    exact Fus.lists r m a ha
  | _, _, _, .dk _ _ _ _, m, _, _ => by rw [fzD, immD] at m; cases m
  | _, _, _, .dt _ _ _ _, m, _, _ => by rw [fzD, immD] at m; cases m
  | _, _, _, .obj _ _ _ _ _ _ _ _, m, _, _ => by rw [fzD, immD] at m; cases m
theorem Fus.lists : ∀ {vs : List V} {ds : List D} {A : List Addr}, Fus K H vs ds A → immDs (fzDs ds) = true → ∀ a ∈ A, ∃ vs, H a = some (.lst vs)
  | _, _, _, .nil, _, _, h => nomatch h
  | _, _, _, .cons h r _, m, a, ha => by
    rw [fzDs, immDs, Bool.and_eq_true] at m
    rcases List.mem_append.mp ha with q | q
    · exact Fu.lists h m.1 a q
    · exact Fus.lists r m.2 a q
end
mutual
/-- frozen -/
theorem Fu.frz : ∀ {v : V} {d : D} {A : List Addr}, Fu K H v d A → immD (fzD d) = true → (∀ a ∈ A, ∀ vs, H a = some (.lst vs) → ∃ o, H' a = some (.frz o (.lst vs))) → (∀ b o, Stt o → NTb o → H b = some o → H' b = some o) → Fu K H' v (fzD d) []
  | _, _, _, .non, _, _, _ => by rw [fzD]; exact .non
  | _, _, _, .bl b, _, _, _ => by rw [fzD]; exact .bl b
  | _, _, _, .int i, _, _, _ => by rw [fzD]; exact .int i
  | _, _, _, .str x, _, _, _ => by rw [fzD]; exact .str x
  | _, _, _, .fn n, _, _, _ => by rw [fzD]; exact .fn n
  | _, _, _, .exc c a, _, _, _ => by rw [fzD]; exact .exc c a
  | _, _, _, .cl h1 h2, _, _, t => by rw [fzD]; exact .cl (t _ (.ext _) True.intro True.intro h1) (t _ (LamX.CodeO _ _) True.intro True.intro h2)
  | _, _, _, .lst h r n, m, k, t => by
    rw [fzD, immD] at m
    rw [fzD]
    obtain ⟨o, e⟩ := k _ List.mem_cons_self _ h
    exact .fz e (Fus.frz r m (fun a ha => k a (List.mem_cons_of_mem _ ha)) t)
  | _, _, _, .fz h r, m, k, t => by
    rw [fzD, immD] at m
    rw [fzD]
    exact .fz (t _ (.frz _ _) True.intro True.intro h) (Fus.frz r m (fun a ha => nomatch ha) t)
  | _, _, _, .tup h r, m, k, t => by
    rw [fzD, immD] at m
    rw [fzD]
    exact .tup (h.imp (fun z => t _ (.tup _) True.intro True.intro z) id) (Fus.frz r m k t)
  | _, _, _, .dk _ _ _ _, m, _, _ => by rw [fzD, immD] at m; cases m
  | _, _, _, .dt _ _ _ _, m, _, _ => by rw [fzD, immD] at m; cases m
  | _, _, _, .obj _ _ _ _ _ _ _ _, m, _, _ => by rw [fzD, immD] at m; cases m
theorem Fus.frz : ∀ {vs : List V} {ds : List D} {A : List Addr}, Fus K H vs ds A → immDs (fzDs ds) = true → (∀ a ∈ A, ∀ vs, H a = some (.lst vs) → ∃ o, H' a = some (.frz o (.lst vs))) → (∀ b o, Stt o → NTb o → H b = some o → H' b = some o) → Fus K H' vs (fzDs ds) []
  | _, _, _, .nil, _, _, _ => by rw [fzDs]; exact .nil
  | _, _, _, .cons h r _, m, k, t => by
    rw [fzDs, immDs, Bool.and_eq_true] at m
    rw [fzDs]
    exact Fus.cons (A := []) (B := []) (Fu.frz h m.1 (fun a ha => k a (List.mem_append_left _ ha)) t) (Fus.frz r m.2 (fun a ha => k a (List.mem_append_right _ ha)) t) fun _ z => nomatch z
end
end
def thawE (f : Env → R D) (ρ : Env) : R D := (f ρ).bind fun d => .ok (thaw d)
section
variable {X : Cx} {W : WX} {e : Expr} {f : Env → R D} {own : List Nat}
theorem VE.thaw (v : VE X W e f) : VE X W e (thawE f) := ⟨peW v.pe fun σ H Q ⟨ρ, r, o⟩ => ⟨ρ, r, (Out.bind o).mono fun d _ q v H' s rd => q v H' s rd.thaw⟩⟩
theorem VP.thaw (v : VP X W own e f) : VP X W own e (thawE f) := ⟨peW v.pe fun σ H Q ⟨ρ, S, F, st, o⟩ => ⟨ρ, S, F, st, (Out.bind o).mono fun d _ q v H' A s n rd => q v H' A s n rd.thaw⟩⟩
end
/-! freezing -/
theorem psG {X : Cx} {st : Stmt} {t u : TS} (h : PS X st u) (q : ∀ pins s σ H D, Inv X pins σ H s → t D σ H → ∃ H', Inv X pins σ H' s ∧ u D σ H') : PS X st t :=
  ⟨fun pins s σ H D I x => let ⟨H', I', x'⟩ := q pins s σ H D I x; h.run pins s σ H' D I' x'⟩
theorem lock_all {X : Cx} {pins : List (Addr × Obj)} {σ : L2.St} {s : Shared} {H : Hp} (I : Inv X pins σ H s) : ∀ A : List Addr, (∀ a ∈ A, ∃ vs, H a = some (.lst vs)) →
    ∃ H', Inv X pins σ H' s ∧ (∀ b, b ∉ A → H' b = H b) ∧ ∀ a ∈ A, ∀ vs, H a = some (.lst vs) → ∃ o, H' a = some (.frz o (.lst vs))
  | [], _ => ⟨H, I, fun _ _ => rfl, fun _ z => nomatch z⟩
  | a :: A, k => by
    obtain ⟨H1, I1, e1, e2⟩ := lock_all I A fun b hb => k b (List.mem_cons_of_mem _ hb)
    by_cases m : a ∈ A
    · refine ⟨H1, I1, fun b hb => e1 b fun z => hb (List.mem_cons_of_mem _ z), fun b hb vs h => ?_⟩
      rcases List.mem_cons.mp hb with rfl | hb
      · exact e2 _ m vs h
      · exact e2 b hb vs h
    · obtain ⟨vs, hv⟩ := k a List.mem_cons_self
      obtain ⟨od, I2⟩ := I1.lock ((e1 a m).trans hv) trivial
      refine ⟨_, I2, fun b hb => ?_, fun b hb us h => ?_⟩
      · rw [upd_ne (fun z => hb (by rw [z]; exact List.mem_cons_self))]
        exact e1 b fun z => hb (List.mem_cons_of_mem _ z)
      · by_cases eb : b = a
        · subst eb
          rw [hv] at h
          cases h
          exact ⟨od, upd_same⟩
        · rw [upd_ne eb]
          rcases List.mem_cons.mp hb with z | hb
          · exact absurd z eb
          · exact e2 b hb us h
def frzS (i : Nat) (f : Env → Sr) (ρ : Env) : Sr := match ρ[i]? with
  | some (some d) => if immD (fzD d) = true then f (ρ.set i (some (fzD d))) else .st
  | _ => .st
open Classical in
/-- slot i is frozen ahead of the statement -/
theorem vs_frz {X : Cx} {W : WX} {own own1 own' : List Nat} {ol : Ol} {st : Stmt} {f : Env → Sr} (i : Nat) (h : VS X W own1 own' ol st f) (hi : i ∈ own := by decide) (w : own1 = own.filter (fun k => decide (k ≠ i)) := by rfl) : VS X W own own' ol st (frzS i f) :=
  ⟨psG h.ps fun pins s σ H D I ⟨B, ρ, x, pn, q⟩ => by
    unfold frzS at q
    split at q
    rotate_left
    · exact q.elim
    rename_i d ei
    by_cases m : immD (fzD d) = true
    rotate_left
    · rw [if_neg m] at q; exact q.elim
    rw [if_pos m] at q
    obtain ⟨S, F, b, y⟩ := x
    obtain ⟨v, h1, h2, _⟩ := y.val i d ei
    have fu := h2 hi
    obtain ⟨H', I', k1, k2⟩ := lock_all I (F i) (fu.lists m)
    have w2 : ∀ k, k ∈ own1 ↔ k ∈ own ∧ k ≠ i := fun k => by rw [w, List.mem_filter, decide_eq_true_eq]
    have offS : ∀ a ∈ F i, S a = none := fun a ha => (y.out i hi a ha).1
    have offT : ∀ a o, Stt o → H a = some o → a ∉ F i := fun a o t e z => by
      obtain ⟨_, o', e', n⟩ := y.out i hi a z
      rw [e] at e'; cases e'; exact n t
    let S' : Hp := fun a => if a ∈ F i then H' a else S a
    have sS : Same S S' := Same.of fun a o e => by
      show (if a ∈ F i then H' a else S a) = some o
      rw [if_neg fun z => by rw [offS a z] at e; cases e]
      exact e
    have hT : ∀ a o, Stt o → NTb o → H a = some o → H' a = some o := fun a o t _ e => by rw [k1 a (offT a o t e)]; exact e
    have sS2 : Same S' H' := ⟨fun a o e n => by
      have e : (if a ∈ F i then H' a else S a) = some o := e
      by_cases z : a ∈ F i
      · rw [if_pos z] at e; exact e
      · rw [if_neg z] at e
        rw [k1 a z]
        exact y.sub.mv e n, fun a ps e => by
      have e : (if a ∈ F i then H' a else S a) = some (.tbl ps) := e
      by_cases z : a ∈ F i
      · rw [if_pos z] at e; exact ⟨#[], by rw [e]; simp, MoreOk.nil _⟩
      · rw [if_neg z] at e
        obtain ⟨more, e1, m⟩ := y.sub.tab a ps e
        refine ⟨more, by rw [k1 a z]; exact e1, m.1, fun pos cv hc => ?_⟩
        obtain ⟨c, ec, hcd⟩ := m.2 pos cv hc
        exact ⟨c, ec, hT _ _ True.intro True.intro hcd⟩⟩
    refine ⟨H', I', B, ρ.set i (some (fzD d)), ⟨S', F, b.trans sS, ?_⟩, pn, q⟩
    refine ⟨by rw [List.length_set]; exact y.len, sS2, fun a o e t n => ?_, y.tabs.up sS, fun j e hj => ?_, fun j hj a ha => ?_, fun j hj k hk => y.dis j ((w2 j).mp hj).1 k ((w2 k).mp hk).1⟩
    · show (if a ∈ F i then H' a else S a) = some o
      by_cases z : a ∈ F i
      · rw [if_pos z]; exact e
      · rw [if_neg z]
        rw [k1 a z] at e
        exact y.cl a o e t n
    · rcases get_set hj with ⟨e1, e2, _⟩ | ⟨ne, hj⟩
      · cases e2
        rw [e1]
        refine ⟨v, h1, fun z => absurd rfl ((w2 _).mp z).2, fun _ => (fu.frz (H' := S') m (fun a ha vs hv => ?_) fun a o t n e => ?_).rd⟩
        · show ∃ o, (if a ∈ F i then H' a else S a) = _
          rw [if_pos ha]
          exact k2 a ha vs hv
        · show (if a ∈ F i then H' a else S a) = _
          rw [if_neg (offT a o t e)]
          exact y.cl a o e t n
      · obtain ⟨u, g1, g2, g3⟩ := y.val j e hj
        refine ⟨u, g1, fun z => (g2 ((w2 j).mp z).1).at (fun a ha => ?_) hT, fun z => (g3 fun z' => z ((w2 j).mpr ⟨z', ne⟩)).mono sS⟩
        exact k1 a fun z' => y.dis j ((w2 j).mp z).1 i hi ((w2 j).mp z).2 a ha z'
    · obtain ⟨o1, o, o2, o3⟩ := y.out j ((w2 j).mp hj).1 a ha
      have nz : a ∉ F i := fun z => y.dis j ((w2 j).mp hj).1 i hi ((w2 j).mp hj).2 a ha z
      refine ⟨?_, o, by rw [k1 a nz]; exact o2, o3⟩
      show (if a ∈ F i then H' a else S a) = none
      rw [if_neg nz]
      exact o1⟩
end Vs
namespace Vs
open PySem PySem.Spec PyProof.Rows L2
/-! list(dict): its keys -/
def listKD : List D → R D
  | [.dic false ks _] => .ok (.lst ks)
  | _ => .st
theorem nx_listK : NoEx1 listKD := fun ds c h => by unfold listKD at h; split at h <;> cases h
theorem rds_kvs {K : PySem.W.Frag} {H : Hp} : ∀ kvs : List (Key × V), Rds K H (kvs.map fun kv => kV kv.1) (kvs.map fun p => keyD p.1)
  | [] => .nil
  | (.inl i, _) :: r => .cons (.int i) (rds_kvs r)
  | (.inr x, _) :: r => .cons (.str x) (rds_kvs r)
theorem imm_keys : ∀ kvs : List (Key × V), immDs (kvs.map fun p => keyD p.1) = true
  | [] => by rw [List.map_nil, immDs]
  | (.inl i, _) :: r => by
    rw [List.map_cons, immDs, imm_keys r]
    show (immD (.int i) && true) = true
    rw [immD]; rfl
  | (.inr x, _) :: r => by
    rw [List.map_cons, immDs, imm_keys r]
    show (immD (.str x) && true) = true
    rw [immD]; rfl
theorem cb_listK {X : Cx} : CbD X rListD listKD := fun vs ds H Q z r h q => by
  unfold listKD at h
  split at h
  · obtain ⟨v, rfl, h1⟩ := rds1 r
    cases h
    cases h1 with
    | dk h1 e r1 =>
      subst e
      exact ⟨_, _, rfl, h1, fun l hl => q _ _ [l] (new_same hl) (fu_new_lst hl (rds_kvs _) (imm_keys _)) fun a ha => by rw [List.mem_singleton.mp ha]; exact hl⟩
  · cases h
end Vs

namespace Vs
open PySem PySem.Spec PyProof.Rows L2

/-! ### a call with a keyword: what is left out ahead of it and behind it comes from the defaults -/
def kwG {α : Type} (n c : Nat) (pre post : List α) (us ws : List α) : List α := if us.length = n ∧ ws.length = c then us ++ pre ++ ws ++ post else []
def CalK (P : Program) (w : World) (K : PySem.W.Frag) (mg : Str → Option Value) (base : Heap) (x : Str) (ps ks : List Str) (n : Nat) (pre post : List D) (k : Nat) (m : List D → R D) : Prop :=
  ∃ f fd p1 p2 v1 v2, mg x = some (.ref f) ∧ PySem.W.keepIn K (.ref f) = true ∧ KBinds K fd ps ks (kwG n ks.length p1 p2) (kwG n ks.length v1 v2) ∧ (∀ H, Rds K H v1 pre) ∧ (∀ H, Rds K H v2 post) ∧ n + pre.length + ks.length + post.length = ps.length ∧ FnOk P w K mg base (L2.CX P w) k f fd ps (spF K mg ps.length m)
section
variable {P : Program} {w : World} {K : PySem.W.Frag} {mg : Str → Option Value} {base : Heap}
theorem kbinds_mk {x qual : Str} {params : Arguments} {body : List Stmt} {scope : Scope} {dvs : List V} {f : Addr} {fd : FuncData} {ps ks : List Str} (F : FunD K x qual params body scope dvs [] f fd) (n a b c : Nat) (hd : dvs ≠ []) (hp : 0 < ps.length)
    (h : ∀ (T : Addr) (kV doc pm : Value) (an : Option Addr) (cdv ct : Value) (us ws its : List Value), us.length = n → ws.length = ks.length → its.length = dvs.length →
      ∃ k, bindArgs (PySem.W.fnOf x qual params body scope (.ref T) kV doc pm an cdv ct) ⟨us, ks.zip ws⟩ = seqItems? (.ref T) >>= k ∧ k (some its.toArray) = pure (ps.zip (us ++ (its.drop a).take b ++ ws ++ its.drop c))) :
    ∃ p1 p2, KBinds K fd ps ks (kwG n ks.length p1 p2) (kwG n ks.length ((dvs.drop a).take b) (dvs.drop c)) := by
  obtain ⟨oc, od, dV, kV, doc, pm, an, cdv, ct, osl, rfl, lk, hcd, hD, hK⟩ := F.ex
  rcases hD with ⟨e, _⟩ | ⟨_, T, o, its, m, rfl, lT, oT, rT⟩
  · exact absurd e hd
  · refine ⟨(its.drop a).take b, its.drop c, ⟨fun s us ws X hlen => ?_, fun {vs us zs ws} r1 r2 => ?_⟩⟩
    · have l1 : its.length = dvs.length := rT.length.symm
      unfold kwG at hlen ⊢
      by_cases hc : us.length = n ∧ ws.length = ks.length
      · rw [if_pos hc] at hlen ⊢
        obtain ⟨k, e1, e2⟩ := h T kV doc pm an cdv ct us ws its hc.1 hc.2 l1
        refine BindsTo.of_looks fun M => ?_
        rw [e1]
        exact looks_items X lT oT (.of_pure e2)
      · rw [if_neg hc] at hlen
        exact absurd hlen.symm (Nat.ne_of_gt hp)
    · unfold kwG
      rw [r1.length, r2.length]
      by_cases hc : us.length = n ∧ ws.length = ks.length
      · rw [if_pos hc, if_pos hc]
        exact ((r1.append ((rT.drop a).take b)).append r2).append (rT.drop c)
      · rw [if_neg hc, if_neg hc]
        exact .nil
theorem calK_mk {x : Str} {st : Stmt} {N ps ks : List Str} {k : Nat} {own' : List Nat} {bm : Env → Sr} {dvs : List V} (F : DefD K mg x st dvs) (S : FnScope N ps (defScope st)) (hps : ps.length ≤ N.length) (n a b c : Nat) (pre post : List D) (hr1 : ∀ H, Rds K H ((dvs.drop a).take b) pre) (hr2 : ∀ H, Rds K H (dvs.drop c) post) (hd : dvs ≠ []) (hp : 0 < ps.length)
    (hn : n + pre.length + ks.length + post.length = ps.length)
    (hb : ∀ (T : Addr) (kV doc pm : Value) (an : Option Addr) (cdv ct : Value) (us ws its : List Value), us.length = n → ws.length = ks.length → its.length = dvs.length →
      ∃ k, bindArgs (PySem.W.fnOf x x (defArgs st) (defBody st) (defScope st) (.ref T) kV doc pm an cdv ct) ⟨us, ks.zip ws⟩ = seqItems? (.ref T) >>= k ∧ k (some its.toArray) = pure (ps.zip (us ++ (its.drop a).take b ++ ws ++ its.drop c)))
    (hbody : ∀ (f : Addr) (cdv : Value) (A : Around) (outer : List PySem.Env) (s : Shared) (H : Hp) (E : XK), Room k (A.deeper (envOfC x (defScope st) s.heap.objs.size f cdv)) →
      VSs (cxOf (L2.CX P w) P w K mg base N x (defScope st) f cdv A outer s H E) (fun cls d _ H => E cls d H) [] own' nol (defBody st) bm) :
    CalK P w K mg base x ps ks n pre post (k + 1) (runB N.length bm) := by
  obtain ⟨f, fd, F, h⟩ := F
  obtain ⟨p1, p2, kb⟩ := kbinds_mk (ks := ks) F n a b c hd hp hb
  exact ⟨f, fd, p1, p2, _, _, h, F.kp, kb, hr1, hr2, hn, fnD_ok F S hps (fun cdv A outer s H E hr => hbody f cdv A outer s H E hr)⟩
end
section
variable {X : Cx} {CX : CXT} {k : Nat} {f : Addr} {fd : FuncData} {ps ks : List Str} {sp : Sp} {E : L2.St → XK} {x : Str} {p pos : Pos} {e : Expr} {es : List Expr} {kws : List Keyword} {t tk : TA}
def tCallSK (sp : Sp) (gV : List V → List V → List V) (E : L2.St → XK) (t tk : TA) : TE := fun σ H Q => t σ H fun vs H1 => tk σ H1 fun zs H2 => sp (gV vs zs) H2 Q (E σ)
variable {g : List Value → List Value → List Value} {gV : List V → List V → List V}
theorem run_fnSK {pins : List (Addr × Obj)} {σ : L2.St} {H : Hp} {s : Shared} {Q : VK} {us ws : List Value} {vs zs : List V} (F : FnOk X.prog X.w X.K X.mg X.base CX k f fd ps sp) (hr : Room k X.A) (hb : KBinds X.K fd ps ks g gV) (hx : PassesAt CX X σ (E σ))
    (I : Inv X pins σ H s) (r : Vals vs us) (rz : Vals zs ws) (h : sp (gV vs zs) H Q (E σ)) : wpAny (model X.prog X.w) X.A (call (.ref f) us (ks.zip ws)) (EP X pins σ Q) X.xe s := by
  have r2 := hb.rel r rz
  have hl : (g us ws).length = ps.length := by rw [← r2.length]; exact F.len _ _ _ _ h
  refine wpAny_call (codeAny_mono (F.run X.A X.stack s H ⟨us, ks.zip ws⟩ (g us ws) (gV vs zs) Q (E σ) hr I.env0 (hb.to s us ws I.kIn hl) r2 h) fun r s' hq => ?_)
  cases r with
  | error e => exact hx pins H s e s' I hq
  | ok fl =>
    cases fl with
    | ret u => exact I.after hq
    | next => exact False.elim hq
    | brk => exact False.elim hq
    | cont => exact False.elim hq
theorem pe_callSK (F : FnOk X.prog X.w X.K X.mg X.base CX k f fd ps sp) (hr : Room k X.A) (hg : Gl X x) (hm : X.mg x = some (.ref f)) (hk : PySem.W.keepIn X.K (.ref f) = true) (hb : KBinds X.K fd ps ks g gV) (hx : ∀ σ, PassesAt CX X σ (E σ))
    (ha : PA X (e :: es) t) (hkw : PK X kws tk) (hall : (backToKw pos (keywordEach kws X.env)).all (·.1.isSome) = true) (hks : (backToKw pos (keywordEach kws X.env)).filterMap (·.1) = ks)
    (hdb : (x == ("__debug__" : Str)) = false) (he : starEach (e :: es) X.env = (false, eval e X.env) :: starEach es X.env)
    (hpl : ((backTo pos (starEach (e :: es) X.env)).any (·.1) || (backToKw pos (keywordEach kws X.env)).any (·.1.isNone)) = false) :
    PE X (.Call (.Name x p) (e :: es) kws pos) (tCallSK sp gV E t tk) := by
  refine ⟨fun pins s σ H Q I h => ?_⟩
  refine wpAny_Call_Name_kw (ld_glob I hg hm ?_ hdb)
  refine PySem.W.callWith_KW (h₀ := X.base) I.ok.mod.kin hk hall (thn (ha.run pos pins s σ H _ I h) fun us s1 ⟨vs, H1, I1, r, q⟩ => ?_) hpl he
  refine thn (hkw.run pos pins s1 σ H1 _ I1 q) fun ws s2 ⟨zs, H2, I2, rz, q2⟩ => ⟨I2.kIn, ?_⟩
  rw [hks]
  exact run_fnSK F hr hb (hx σ) I2 r rz q2
end
theorem Out.later {α : Type} {mg : Str → Option Value} {W : WX} {σ : L2.St} {H H' : Hp} {r : R α} {P : α → Prop} (s : Same H H') (h : Out mg W σ H r P) : Out mg W σ H' r P := by
  cases r with
  | ok a => exact h
  | ex c => obtain ⟨C, h1, h2⟩ := h; exact ⟨C, h1, fun H2 s2 => h2 H2 (s.trans s2)⟩
  | st => exact h
def kwA (fs : Env → R (List D)) (fk : Env → R D) (pre post : List D) (ρ : Env) : R (List D) := (fs ρ).bind fun ds => (fk ρ).bind fun d => .ok (ds ++ pre ++ [d] ++ post)
theorem vg_fnK {X : Cx} {W : WX} {x : Str} {ps : List Str} {n k k' : Nat} {pre post : List D} {m : List D → R D} {p pos kpos : Pos} {e ke : Expr} {es : List Expr} {kn : Str} {fs : Env → R (List D)} {fk : Env → R D} (C : CalK X.prog X.w X.K X.mg X.base x ps [kn] n pre post k m) (hr : Room k' X.A) (tk : Takes X W) (hg : Gl X x)
    (ha : VA X W (e :: es) fs) (hke : VE X W ke fk) (hl : LenA fs n) (hk : k ≤ k' := by decide) (hdb : (x == ("__debug__" : Str)) = false := by decide) (he : starEach (e :: es) X.env = (false, eval e X.env) :: starEach es X.env := by rfl)
    (hall : (backToKw pos (keywordEach [⟨some kn, ke, kpos⟩] X.env)).all (·.1.isSome) = true := by rfl) (hks : (backToKw pos (keywordEach [⟨some kn, ke, kpos⟩] X.env)).filterMap (·.1) = [kn] := by rfl)
    (hpl : ((backTo pos (starEach (e :: es) X.env)).any (·.1) || (backToKw pos (keywordEach [⟨some kn, ke, kpos⟩] X.env)).any (·.1.isNone)) = false := by rfl) :
    VG X W (.Call (.Name x p) (e :: es) [⟨some kn, ke, kpos⟩] pos) (callF m (kwA fs fk pre post)) := by
  obtain ⟨f, fd, p1, p2, v1, v2, h1, h2, h3, r1, r2, hn, h4⟩ := C
  refine ⟨peW (pe_callSK h4 (hr.mono hk) hg h1 h2 h3 (fun σ => passAt tk σ) ha.pa (pk_cons hke.pe pk_nil) hall hks hdb he hpl) fun σ H Q ⟨ρ, re, o⟩ => ⟨ρ, re, (Out.bind (Out.bind o)).mono fun ds hd q vs H1 s1 ra => ?_⟩⟩
  refine ⟨ρ, re.mono s1, ?_⟩
  have q := Out.later s1 (Out.bind q)
  refine q.mono fun d hdd q u H2 s2 rk => ?_
  have hds : ds.length = n := hl ρ ds hd
  have hvs : vs.length = n := ra.length.trans hds
  have e1 : kwG n [kn].length v1 v2 vs [u] = vs ++ v1 ++ [u] ++ v2 := if_pos ⟨hvs, rfl⟩
  show spF X.K X.mg ps.length m (kwG n [kn].length v1 v2 vs [u]) H2 Q _
  rw [e1]
  refine ⟨?_, (re.tabs.up s1).up s2, ds ++ pre ++ [d] ++ post, (((ra.mono s2).app (r1 H2)).app (.cons rk .nil)).app (r2 H2), ?_⟩
  · simp only [List.length_append, hvs, (r1 H2).length, (r2 H2).length, List.length_cons, List.length_nil]
    simpa using hn
  · have q : Out X.mg W σ H (m (ds ++ pre ++ [d] ++ post)) _ := q
    cases hz : m (ds ++ pre ++ [d] ++ post) with
    | ok d => rw [hz] at q; exact fun v H' A s3 f2 n2 => q v H' A ((s1.trans s2).trans s3) f2 fun a z => (s1.trans s2).free (n2 a z)
    | ex c => rw [hz] at q; obtain ⟨C, h1, h2⟩ := q; exact ⟨C, h1, fun H' s3 => h2 H' ((s1.trans s2).trans s3)⟩
    | st => rw [hz] at q; exact q.elim
end Vs

namespace Vs
open PySem PySem.Spec PyProof.Rows L2

/-! ### slots handed over within expressions -/
def offF (mv : List Nat) (F : Nat → List Addr) (j : Nat) : List Addr := if j ∈ mv then [] else F j
theorem offF_mem {mv : List Nat} {F : Nat → List Addr} {j : Nat} {a : Addr} (h : a ∈ offF mv F j) : j ∉ mv ∧ a ∈ F j := by
  unfold offF at h
  split at h
  · cases h
  · rename_i n; exact ⟨n, h⟩
section
variable {K : PySem.W.Frag} {own mv : List Nat} {S H H' : Hp} {F : Nat → List Addr} {ρ : Env} {σ : L2.St}
theorem Stx.off (h : Stx own K S F ρ σ H) (mv : List Nat) : Stx own K S (offF mv F) (wipeD ρ mv) σ H := by
  refine ⟨by rw [wipeD_length]; exact h.len, h.sub, h.cl, h.tabs, fun j d q => ?_, fun j m a ha => h.out j m a (offF_mem ha).2, fun j m k mk ne a ha hb => h.dis j m k mk ne a (offF_mem ha).2 (offF_mem hb).2⟩
  obtain ⟨q, n⟩ := wipeD_some q
  obtain ⟨v, h1, h2, h3⟩ := h.val j d q
  refine ⟨v, h1, fun m => ?_, h3⟩
  unfold offF
  rw [if_neg n]
  exact h2 m
/-- what stays, and what the slots own, is as it was -/
theorem Stx.on (h : Stx own K S F ρ σ H) (sS : Same S H') (hF : ∀ j ∈ own, ∀ a ∈ F j, H' a = H a) (hT : ∀ b o, Stt o → NTb o → H b = some o → H' b = some o) : Stx own K (ext S H' []) F ρ σ H' := by
  refine ⟨h.len, ext_h sS _, fun a o e t n => ext_stt sS e t n, h.tabs.up (ext_s _), fun i d q => ?_, fun i m a ha => ?_, h.dis⟩
  · obtain ⟨v, h1, h2, h3⟩ := h.val i d q
    exact ⟨v, h1, fun m => (h2 m).at (hF i m) hT, fun m => (h3 m).mono (ext_s _)⟩
  · obtain ⟨h1, o, h2, h3⟩ := h.out i m a ha
    have h4 : H' a = some o := (hF i m a ha).trans h2
    exact ⟨ext_none h1 (fun z => nomatch z) fun o' e => by rw [h4] at e; cases e; exact h3, o, h4, h3⟩
end
def mvX (i : Nat) (ρ : Env) : RX D := match ρ[i]? with
  | some (some d) => .ok d (wipeD ρ [i])
  | _ => .st
def mvR {α : Type} (mv : List Nat) (r : R α) (ρ : Env) : RX α := match r with
  | .ok a => .ok a (wipeD ρ mv)
  | .ex c => .ex c (wipeD ρ mv)
  | .st => .st
theorem OutX.mv {α : Type} {K : PySem.W.Frag} {mg : Str → Option Value} {W : WX} {own mv : List Nat} {S H : Hp} {F : Nat → List Addr} {B : Hp} {σ : L2.St} {r : R α} {ρ : Env} {P : α → Env → Prop} (b : Same B S) (st : Stx own K S F ρ σ H) (h : OutX K mg W own B σ (mvR mv r ρ) P) : Out mg W σ H r fun a => P a (wipeD ρ mv) := by
  cases r with
  | ok a => exact h
  | ex c =>
    obtain ⟨C, h1, h2⟩ := h
    exact ⟨C, h1, fun H' s => h2 H' (Sta.grow ⟨S, _, b, st.off mv⟩ s)⟩
  | st => exact h
def tMs (K : PySem.W.Frag) (mg : Str → Option Value) (W : WX) (own mv : List Nat) (f : Env → R (List D)) : TA := fun σ H Q => ∃ ρ S F, Stx own K S F ρ σ H ∧ Out mg W σ H (f ρ) fun ds => ∀ vs H' A, Same H H' → Fus K H' vs ds A → (∀ a ∈ A, H a = none ∨ ∃ i ∈ mv, a ∈ F i) → Q vs H'
structure VMs (X : Cx) (W : WX) (own mv : List Nat) (es : List Expr) (f : Env → R (List D)) : Prop where
  pa : PA X es (tMs X.K X.mg W own mv f)
  md : ∀ i ∈ mv, i ∈ own
section
variable {X : Cx} {W : WX} {own mv : List Nat} {e : Expr} {es : List Expr} {f : Env → R D} {fs : Env → R (List D)} {x : Str} {p pos : Pos}
theorem vx_mv (i : Nat) (pv : PE X (.Name x p) (tVar i)) (hi : i ∈ own := by decide) : VX X W own (.Name x p) (mvX i) := ⟨peW pv fun σ H Q ⟨B, ρ, st, o⟩ => by
  unfold mvX at o
  split at o
  · rename_i d e
    obtain ⟨S, F, b, y⟩ := st
    obtain ⟨v, h1, h2, _⟩ := y.val i d e
    exact ⟨v, h1, o v H ⟨S, offF [i] F, F i, b, y.off [i], h2 hi, fun a m => (y.out i hi a m).1, fun j hj a ha z => by
      obtain ⟨n, z⟩ := offF_mem z
      exact y.dis i hi j hj (fun e => n (by rw [e]; exact List.mem_cons_self)) a ha z⟩⟩
  · exact o.elim⟩
theorem vms_nil : VMs X W own [] [] nilA := ⟨paW pa_nil fun σ H Q ⟨ρ, S, F, st, o⟩ => o [] H [] (Same.refl H) .nil (fun _ z => nomatch z), fun _ z => nomatch z⟩
theorem vms_mv (i : Nat) (pv : PE X (.Name x p) (tVar i)) (hr : VMs X W own mv es fs) (hi : i ∈ own := by decide) (hn : i ∉ mv := by decide) (hs : starEach (.Name x p :: es) X.env = (false, eval (.Name x p) X.env) :: starEach es X.env := by rfl) : VMs X W own (i :: mv) (.Name x p :: es) (consA (varE i) fs) :=
  ⟨paW (pa_cons pv hr.pa hs) fun σ H Q ⟨ρ, S, F, st, o⟩ => by
    obtain ⟨d, hd, hv, o⟩ := varE_get (Out.bind o)
    obtain ⟨v, h1, h2, _⟩ := st.val i d hd
    refine ⟨v, h1, ρ, S, F, st, (Out.bind o).mono fun ds _ q vs H' A s f n => ?_⟩
    refine q (v :: vs) H' (F i ++ A) s (.cons ((h2 hi).same s) f fun a ha hb => ?_) fun a ha => ?_
    · rcases n a hb with z | ⟨j, hj, z⟩
      · obtain ⟨_, o, e, _⟩ := st.out i hi a ha
        rw [z] at e; cases e
      · exact st.dis i hi j (hr.md j hj) (fun e => hn (e ▸ hj)) a ha z
    · rcases List.mem_append.mp ha with z | z
      · exact .inr ⟨i, List.mem_cons_self, z⟩
      · rcases n a z with z | ⟨j, hj, z⟩
        · exact .inl z
        · exact .inr ⟨j, List.mem_cons_of_mem _ hj, z⟩, fun j hj => (List.mem_cons.mp hj).elim (fun e => e ▸ hi) (hr.md j)⟩
theorem vms_g (he : VG X W e f) (hr : VMs X W own mv es fs) (hs : starEach (e :: es) X.env = (false, eval e X.env) :: starEach es X.env := by rfl) : VMs X W own mv (e :: es) (consA f fs) :=
  ⟨paW (pa_cons he.pe hr.pa hs) fun σ H Q ⟨ρ, S, F, st, o⟩ => ⟨ρ, st.env, (Out.bind o).mono fun d _ q v H1 A1 s1 f1 n1 => ⟨ρ, _, F, st.grow s1 (A := []) (fun _ z => nomatch z), ((Out.bind q).up s1).mono fun ds _ q vs H' A s f n => by
    refine q (v :: vs) H' (A1 ++ A) (s1.trans s) (.cons (f1.same s) f fun a ha hb => ?_) fun a ha => ?_
    · rcases n a hb with z | ⟨j, hj, z⟩
      · obtain ⟨o, e⟩ := f1.there a ha
        rw [z] at e; cases e
      · obtain ⟨_, o, e, _⟩ := st.out j (hr.md j hj) a z
        rw [n1 a ha] at e; cases e
    · rcases List.mem_append.mp ha with z | z
      · exact .inl (n1 a z)
      · exact (n a z).imp s1.free id⟩⟩, hr.md⟩
/-- what was handed over stands beside the state -/
theorem mvs_end {K : PySem.W.Frag} {S H H' : Hp} {F : Nat → List Addr} {ρ : Env} {σ : L2.St} {vs : List V} {ds : List D} {A : List Addr} (st : Stx own K S F ρ σ H) (md : ∀ i ∈ mv, i ∈ own) (s : Same H H') (f : Fus K H' vs ds A) (n : ∀ a ∈ A, H a = none ∨ ∃ i ∈ mv, a ∈ F i) :
    Stx own K (ext S H' []) (offF mv F) (wipeD ρ mv) σ H' ∧ (∀ a ∈ A, ext S H' [] a = none) ∧ ∀ j ∈ own, ∀ a ∈ A, a ∉ offF mv F j := by
  refine ⟨(st.off mv).grow s (A := []) (fun _ z => nomatch z), fun a ha => ?_, fun j hj a ha z => ?_⟩
  · obtain ⟨o, h1, h2⟩ := f.soft a ha
    refine ext_none ?_ (fun z => nomatch z) (fun o' e => by rw [h1] at e; cases e; exact h2)
    rcases n a ha with z | ⟨i, hi, z⟩
    · exact st.sub.free z
    · exact (st.out i (md i hi) a z).1
  · obtain ⟨nj, z⟩ := offF_mem z
    rcases n a ha with w | ⟨i, hi, w⟩
    · obtain ⟨_, o, e, _⟩ := st.out j hj a z
      rw [w] at e; cases e
    · exact st.dis j hj i (md i hi) (fun e => nj (e ▸ hi)) a z w
/-- a display of things handed over -/
def lstM (mv : List Nat) (fs : Env → R (List D)) (ρ : Env) : RX D := mvR mv ((fs ρ).bind fun ds => .ok (.lst ds)) ρ
theorem vx_lst {n : Nat} (ha : VMs X W own mv es fs) (hl : LenA fs n) (hn : n ≤ 1000 := by decide) : VX X W own (.List es pos) (lstM mv fs) := ⟨peW (pe_lst ha.pa) fun σ H Q ⟨B, ρ, ⟨S, F, b, y⟩, o⟩ => ⟨ρ, S, F, y, (Out.bind (OutX.mv b y o)).mono fun ds hd q vs H1 A s1 f1 n1 => ⟨le_line (f1.length.trans (hl ρ ds hd)) hn, fun p hp => by
  obtain ⟨y1, g1, g2⟩ := mvs_end y ha.md s1 f1 n1
  have s2 : Same H1 (upd H1 p (.lst vs)) := new_same hp
  have fp : p ∉ A := fun z => by
    obtain ⟨o, e⟩ := f1.there p z
    rw [hp] at e; cases e
  refine q (.ref p) _ ⟨_, _, p :: A, b.trans ((ext_s (H := H1) []).trans (ext_s [])), y1.grow s2 (A := []) (fun _ z => nomatch z), .lst upd_same (f1.same s2) fp, fun a ha => ?_, fun j hj a ha z => ?_⟩
  · rcases List.mem_cons.mp ha with z | z
    · subst z
      exact ext_none (y1.sub.free hp) (fun z => nomatch z) fun o' e => by rw [upd_same] at e; cases e; exact fun z => (show False from z)
    · obtain ⟨o, e1, e2⟩ := (f1.same s2).soft a z
      exact ext_none (g1 a z) (fun z => nomatch z) fun o' e => by rw [e1] at e; cases e; exact e2
  · rcases List.mem_cons.mp ha with w | w
    · subst w
      obtain ⟨_, o, e, _⟩ := y1.out j hj a z
      rw [hp] at e; cases e
    · exact g2 j hj a w z⟩⟩⟩
/-- a def that is given its arguments, some of them slots' -/
def giveX (mv : List Nat) (m : List D → R D) (fs : Env → R (List D)) (ρ : Env) : RX D := mvR mv ((fs ρ).bind m) ρ
theorem vx_callG {ps : List Str} {k k' : Nat} {m : List D → R D} (C : CalG X.prog X.w X.K X.mg X.base x ps k m) (hr : Room k' X.A) (tk : Takes X W) (hg : Gl X x)
    (ha : VMs X W own mv (e :: es) fs) (hl : LenA fs ps.length) (hk : k ≤ k' := by decide) (hdb : (x == ("__debug__" : Str)) = false := by decide) (he : starEach (e :: es) X.env = (false, eval e X.env) :: starEach es X.env := by rfl) (hpl : (backTo pos (starEach es X.env)).any (·.1) = false := by rfl) :
    VX X W own (.Call (.Name x p) (e :: es) [] pos) (giveX mv m fs) := by
  classical
  obtain ⟨f, fd, h1, h2, h3, h4⟩ := C
  refine ⟨peW (pe_callS h4 (hr.mono hk) hg h1 h2 h3 (fun σ => passAt tk σ) ha.pa hdb he hpl) fun σ H Q ⟨B, ρ, ⟨S, F, b, y⟩, o⟩ => ⟨ρ, S, F, y, ?_⟩⟩
  cases hf : fs ρ with
  | st => unfold giveX at o; rw [hf] at o; exact o.elim
  | ex c =>
    unfold giveX at o; rw [hf] at o
    obtain ⟨C, g1, g2⟩ := o
    exact ⟨C, g1, fun H' s => g2 H' (Sta.grow ⟨S, _, b, y.off mv⟩ s)⟩
  | ok ds =>
    intro vs H1 A s1 f1 n1
    obtain ⟨y1, g1, g2⟩ := mvs_end y ha.md s1 f1 n1
    have soft : ∀ a ∈ A, ∀ o, H1 a = some o → ¬ Stt o := fun a ha o e => by
      obtain ⟨o', e1, e2⟩ := f1.soft a ha
      rw [e1] at e; cases e; exact e2
    refine ⟨f1.length.trans (hl ρ ds hf), fun a => if a ∈ A then none else H1 a, ds, A, same_cut, fun a o e t n => ?_, y1.tabs.up (same_cutS y1.sub g1 soft), f1, fun a ha => by simp only; rw [if_pos ha], ?_⟩
    · simp only
      rw [if_neg fun z => soft a z o e t]
      exact e
    have back : ∀ H', Same (fun a => if a ∈ A then none else H1 a) H' → Stx own X.K (ext (ext S H1 []) H' []) (offF mv F) (wipeD ρ mv) σ H' := fun H' s => by
      have k1 : ∀ a o, a ∉ A → NTb o → H1 a = some o → H' a = some o := fun a o n nt e => s.mv (show (if a ∈ A then none else H1 a) = some o by rw [if_neg n]; exact e) nt
      refine y1.on ((same_cutS y1.sub g1 soft).trans s) (fun j hj a ha => ?_) fun b o t nt e => k1 b o (fun z => soft b z o e t) nt e
      · obtain ⟨_, o, e, nn⟩ := y1.out j hj a ha
        rw [e]
        exact k1 a o (fun z => g2 j hj a z ha) (nst nn) e
    unfold giveX at o
    rw [hf, R.bind_ok] at o
    cases hz : m ds with
    | st => rw [hz] at o; exact o.elim
    | ex c =>
      rw [hz] at o
      obtain ⟨C, g3, g4⟩ := o
      exact ⟨C, g3, fun H' s => g4 H' ⟨_, _, b.trans ((ext_s (H := H1) []).trans (ext_s [])), back H' s⟩⟩
    | ok d =>
      rw [hz] at o
      intro v H' A' s f' n'
      have offA : ∀ a ∈ A', ∀ o, H1 a = some o → a ∈ A := fun a ha o e => by
        refine Classical.byContradiction fun n => ?_
        have := n' a ha
        simp only at this
        rw [if_neg n, e] at this
        cases this
      refine o v H' ⟨_, _, A', b.trans ((ext_s (H := H1) []).trans (ext_s [])), back H' s, f', fun a ha => ?_, fun j hj a ha z => ?_⟩
      · obtain ⟨o, e1, e2⟩ := f'.soft a ha
        refine ext_none ?_ (fun z => nomatch z) fun o' e => by rw [e1] at e; cases e; exact e2
        cases q : ext S H1 [] a with
        | none => rfl
        | some o' =>
          obtain ⟨o2, q2⟩ : ∃ o2, H1 a = some o2 := by
            cases h : H1 a with
            | none => rw [y1.sub.free h] at q; cases q
            | some o2 => exact ⟨o2, rfl⟩
          have := g1 a (offA a ha o2 q2)
          rw [q] at this; cases this
      · obtain ⟨_, o, e, _⟩ := y1.out j hj a z
        exact g2 j hj a (offA a ha o e) z
/-- a def that only reads, of one thing that was reckoned with effects -/
def callX1 (m : List D → R D) (f : Env → RX D) (ρ : Env) : RX D := (f ρ).bind fun d ρ => liftR (m [d]) ρ
theorem vx_call1 {g : Env → RX D} {ps : List Str} {k k' : Nat} {m : List D → R D} (C : Cal X.prog X.w X.K X.mg X.base x ps k m) (hr : Room k' X.A) (tk : Takes X W) (hg : Gl X x)
    (ha : VX X W own e g) (hl : ps.length = 1 := by rfl) (hk : k ≤ k' := by decide) (hdb : (x == ("__debug__" : Str)) = false := by decide) (he : starEach [e] X.env = (false, eval e X.env) :: starEach [] X.env := by rfl) (hpl : (backTo pos (starEach [] X.env)).any (·.1) = false := by rfl) :
    VX X W own (.Call (.Name x p) [e] [] pos) (callX1 m g) := by
  obtain ⟨f, fd, h1, h2, h3, h4⟩ := C
  refine ⟨peW (pe_callS h4 (hr.mono hk) hg h1 h2 h3 (fun σ => passAt tk σ) (pa_cons ha.pe pa_nil he) hdb he hpl) fun σ H Q ⟨B, ρ, st, o⟩ => ⟨B, ρ, st, ?_⟩⟩
  unfold callX1 at o
  refine (OutX.bind o).mono fun d ρ' _ q v H1 z => ?_
  obtain ⟨S, F, A, b, y, fu, n1, n2⟩ := z
  refine ⟨hl.symm, y.tabs.up y.sub, [d], .cons fu.rd .nil, ?_⟩
  have q := OutX.lift (⟨S, F, b, y⟩ : Sta own B X.K ρ' σ H1) q
  cases hm : m [d] with
  | st => rw [hm] at q; exact q.elim
  | ex c => rw [hm] at q; exact q
  | ok z =>
    rw [hm] at q
    intro v' H' A' s f' n'
    exact q v' H' (Sta.staV ⟨S, F, b, y⟩ s f' n')
/-- a comparison whose first thing was reckoned with effects -/
def cmpX (g : D → D → R D) (f : Env → RX D) (h : Env → R D) (ρ : Env) : RX D := ((f ρ).bind immX).bind fun d ρ => liftR ((h ρ).bind (g d)) ρ
end
end Vs

namespace Vs
open PySem PySem.Spec PyProof.Rows L2

/-! ### a loop that hands out the items of a list of its own -/
def forOL (own1 : List Nat) (t : Nat) (b : Env → Sr) : List D → Env → Sr
  | [], ρ => .nx ρ
  | d :: ds, ρ => match b (ρ.set t (some d)) with
    | .nx ρ2 => forOL own1 t b ds (dropE own1 0 ρ2)
    | .ct ρ2 => forOL own1 t b ds (dropE own1 0 ρ2)
    | .rt d => .rt d
    | _ => .st
def backM (M : List Nat) (ρ0 : Env) : Sr → Sr
  | .nx ρ => .nx (restE M ρ0 ρ)
  | .rt d => .rt d
  | _ => .st
def forO (own1 M : List Nat) (t : Nat) (f : Env → RX D) (b : Env → Sr) (ρ : Env) : Sr := bindX (f ρ) fun d ρ1 => match d with
  | .lst ds => backM M ρ1 (forOL own1 t b ds (wipeD ρ1 M))
  | _ => .st
def pinM (M : List Nat) (f : Nat → Option V) (P : Nat → Option V) (i : Nat) : Option V := if i ∈ M then f i else P i
theorem vs_forO {X : Cx} {W : WX} {own own1 M : List Nat} {ol : Ol} {tg iter : Expr} {body : List Stmt} {f : Env → RX D} {b : Env → Sr} {pos : Pos} (t : Nat)
    (hp : PassesOwn (model X.prog X.w) X.A X.env X.xe) (hc : X.calm = true) (hx : VX X W own iter f) (hg : PG X tg (gName t)) (hb : ∀ fP : Nat → Option V, VSs X W (t :: own1) own1 { l := own1, P := pinM M fP ol.P } body b)
    (ht : t ∉ own1 := by decide) (w : ∀ i ∈ own1, i ∈ own := by decide) (hM : ∀ j ∈ M, j ∉ own := by decide) (htM : t ∉ M := by decide)
    (hs : ∀ x, foldedSetIterable iter X.env x = pure x := by intro _; rfl) (we : ∀ i ∈ ol.e, i ∈ own := by first | decide | (dsimp only; decide)) (hpt : ol.P t = none := by rfl) : VS X W own own1 ol (.For tg iter body [] pos) (forO own1 M t f b) := by
  have hbody : PSs X body (fun D σ H => ∃ fP, tS X.K X.mg W (t :: own1) own1 { l := own1, P := pinM M fP ol.P } b D σ H) := ⟨fun pins s σ H D I ⟨fP, h⟩ => (hb fP).ps.run pins s σ H D I h⟩
  refine ⟨psW (ps_for hp hc (pi_list hx.pe) hg hbody hs) fun D σ H ⟨B, ρ, x, pn, q⟩ => ⟨B, ρ, x, (SEnd.outX pn we q).mono fun d ρ1 _ q v H1 z => ?_⟩⟩
  obtain ⟨S, F, A, bS, y, fu, n1, n2⟩ := z
  cases d with
  | lst ds =>
    cases fu with
    | @lst a vs _ A' hH r na =>
      have hlen : vs.length = ds.length := r.length
      let L := a :: (own.filter (fun i => decide (i ∉ own1))).flatMap F
      have y0 : Stx own1 X.K (ext S H1 L) F ρ1 σ H1 := by
        refine ⟨y.len, ext_h y.sub _, fun a o e t n => ext_stt y.sub e t n, y.tabs.up (ext_s _), fun k e q => ?_, fun k m c hc => ?_, fun k mk j mj => y.dis k (w k mk) j (w j mj)⟩
        · obtain ⟨u, h1, h2, h3⟩ := y.val k e q
          refine ⟨u, h1, fun m => h2 (w k m), fun m => ?_⟩
          by_cases mo : k ∈ own
          · exact (h2 mo).ext y.sub fun c hc => List.mem_cons_of_mem _ (List.mem_flatMap.mpr ⟨k, List.mem_filter.mpr ⟨mo, by simpa using m⟩, hc⟩)
          · exact (h3 mo).mono (ext_s _)
        · obtain ⟨h1, o, h2, h3⟩ := y.out k (w k m) c hc
          refine ⟨ext_none h1 (fun z => ?_) fun o' e => by rw [h2] at e; cases e; exact h3, o, h2, h3⟩
          rcases List.mem_cons.mp z with z | z
          · subst z
            exact n2 k (w k m) _ List.mem_cons_self hc
          · obtain ⟨j, hj, hz⟩ := List.mem_flatMap.mp z
            obtain ⟨hj1, hj2⟩ := List.mem_filter.mp hj
            have hj2 : j ∉ own1 := by simpa using hj2
            exact y.dis k (w k m) j hj1 (fun e => hj2 (e ▸ m)) c hc hz
      have sS : Same S (ext S H1 L) := ext_s _
      have ea : ext S H1 L a = some (.lst vs) := ext_at y.sub hH List.mem_cons_self
      have offL : ∀ c ∈ A', ext S H1 L c = none := fun c hc => by
        obtain ⟨o, h2, h3⟩ := r.soft c hc
        refine ext_none (n1 c (List.mem_cons_of_mem _ hc)) (fun z => ?_) fun o' e => by rw [h2] at e; cases e; exact h3
        rcases List.mem_cons.mp z with z | z
        · exact na (z ▸ hc)
        · obtain ⟨j, hj, hz⟩ := List.mem_flatMap.mp z
          exact n2 j (List.mem_filter.mp hj).1 c (List.mem_cons_of_mem _ hc) hz
      generalize ext S H1 L = S0 at y0 sS ea offL
      let fP : Nat → Option V := fun j => (σ[j]?).getD none
      have hfP : ∀ j v, fP j = some v ↔ σ[j]? = some (some v) := fun j v => by
        show (σ[j]?).getD none = some v ↔ _
        cases σ[j]? with
        | none => simp
        | some o => simp
      have pn0 : Pin (pinM M fP ol.P) σ := fun j v e => by
        unfold pinM at e
        split at e
        · exact (hfP j v).mp e
        · exact pn j v e
      let Iv : Nat → L2.St → Hp → Prop := fun i σ2 H2 => ∃ ρ2 S2 F2 A2, Same S0 S2 ∧ Stx own1 X.K S2 F2 ρ2 σ2 H2 ∧ Fus X.K H2 (vs.drop i) (ds.drop i) A2 ∧ (∀ c ∈ A2, S2 c = none) ∧ (∀ j ∈ own1, ∀ c ∈ A2, c ∉ F2 j) ∧ Pin (pinM M fP ol.P) σ2 ∧ SEnd X.K X.mg W own1 ol B D (backM M ρ1 (forOL own1 t b (ds.drop i) ρ2))
      refine ⟨a, rfl, ⟨vs, SqL.of hH⟩, fun i m σ2 H2 => m = ds.length - i ∧ i ≤ ds.length ∧ Iv i σ2 H2, ⟨ds.length, by simp, Nat.zero_le _, wipeD ρ1 M, S0, offF M F, A', Same.refl _, y0.off M, r, offL, fun j hj c hc z => n2 j (w j hj) c (List.mem_cons_of_mem _ hc) (offF_mem z).2, pn0, q⟩, ?_⟩
      rintro i m σ2 H2 ⟨rfl, hi, ρ2, S2, F2, A2, s2, x2, r2, o2, d2, pn2, q2⟩
      have hq : SqL X.K H2 a vs := SqL.of (x2.sub.mv (s2.mv ea))
      by_cases hlt : i < ds.length
      · have hlv : i < vs.length := by omega
        rw [List.drop_eq_getElem_cons hlt, List.drop_eq_getElem_cons hlv] at r2
        rw [List.drop_eq_getElem_cons hlt] at q2
        cases r2 with
        | @cons _ _ _ _ A1 A3 f1 r3 m1 =>
          refine .inr ⟨⟨vs, vs[i], hq, List.getElem?_eq_getElem hlv⟩, Iv (i + 1), fun σ' H' y => ⟨ds.length - (i + 1), by omega, rfl, hlt, y⟩, fun u H3 yl => ?_⟩
          obtain ⟨rfl, yl⟩ := yl
          have eu := yl vs hq
          rw [List.getElem?_eq_getElem hlv] at eu
          cases eu
          have sB3 : Same S2 (ext S2 H3 A3) := ext_s _
          have hT3 : ∀ c ∈ A3, ∀ o, H3 c = some o → NTb o → ext S2 H3 A3 c = some o := fun c hc o e n => ext_at x2.sub e hc n
          have x3 : Stx (t :: own1) X.K (ext S2 H3 A3) (fun j => if j = t then A1 else F2 j) (ρ2.set t (some ds[i])) (σ2.set t (some vs[i])) H3 := by
            have off3 : ∀ j ∈ own1, ∀ c ∈ F2 j, c ∉ A3 := fun j hj c hc z => d2 j hj c (List.mem_append_right _ z) hc
            refine ⟨by rw [List.length_set, List.length_set]; exact x2.len, ext_h x2.sub _, fun a o e t n => ext_stt x2.sub e t n, x2.tabs.up (ext_s _), fun j e qj => ?_, fun j mj c hc => ?_, fun j mj k mk ne c hc => ?_⟩
            · rcases get_set qj with ⟨rfl, e1, hl⟩ | ⟨ne, qj⟩
              · cases e1
                refine ⟨vs[i], by rw [List.getElem?_set_self (by rw [← x2.len]; exact hl)], fun _ => ?_, fun m => absurd List.mem_cons_self m⟩
                rw [if_pos rfl]; exact f1
              · obtain ⟨u, h1, h2, h3⟩ := x2.val j e qj
                refine ⟨u, by rw [List.getElem?_set_ne (Ne.symm ne)]; exact h1, fun m => ?_, fun m => (h3 fun z => m (List.mem_cons_of_mem _ z)).mono sB3⟩
                rw [if_neg ne]
                exact h2 ((List.mem_cons.mp m).resolve_left ne)
            · by_cases e : j = t
              · rw [if_pos e] at hc
                obtain ⟨o, h2, h3⟩ := f1.soft c hc
                exact ⟨ext_none (o2 c (List.mem_append_left _ hc)) (m1 c hc) fun o' e => by rw [h2] at e; cases e; exact h3, o, h2, h3⟩
              · rw [if_neg e] at hc
                have mj' := (List.mem_cons.mp mj).resolve_left e
                obtain ⟨h1, o, h2, h3⟩ := x2.out j mj' c hc
                exact ⟨ext_none h1 (off3 j mj' c hc) fun o' e => by rw [h2] at e; cases e; exact h3, o, h2, h3⟩
            · intro hk
              by_cases ej : j = t
              · rw [if_pos ej] at hc
                have ek : k ≠ t := fun z => ne (ej.trans z.symm)
                rw [if_neg ek] at hk
                exact d2 k ((List.mem_cons.mp mk).resolve_left ek) c (List.mem_append_left _ hc) hk
              · rw [if_neg ej] at hc
                by_cases ek : k = t
                · rw [if_pos ek] at hk
                  exact d2 j ((List.mem_cons.mp mj).resolve_left ej) c (List.mem_append_left _ hk) hc
                · rw [if_neg ek] at hk
                  exact x2.dis j ((List.mem_cons.mp mj).resolve_left ej) k ((List.mem_cons.mp mk).resolve_left ek) ne c hc hk
          have next : ∀ (ρ5 : Env) (σ' : L2.St) (H' : Hp), SEnd X.K X.mg W own1 ol B D (backM M ρ1 (forOL own1 t b (ds.drop (i + 1)) (dropE own1 0 ρ5))) → Sta own1 (ext S2 H3 A3) X.K ρ5 σ' H' → Pin (pinM M fP ol.P) σ' → Iv (i + 1) σ' H' := by
            intro ρ5 σ' H' q5 ⟨S', F', s', x'⟩ pz
            have kept : ∀ c ∈ A3, ∃ o, H3 c = some o ∧ S' c = some o ∧ H' c = some o ∧ ¬ Stt o := fun c hc => by
              obtain ⟨o, h2, h3⟩ := r3.soft c hc
              have := s'.mv (hT3 c hc o h2 (nst h3)) (nst h3)
              exact ⟨o, h2, this, x'.sub.mv this (nst h3), h3⟩
            classical
            refine ⟨dropE own1 0 ρ5, fun c => if c ∈ A3 then none else S' c, F', A3, same_cutS ((s2.trans sB3).trans s') (fun c z => s2.free (o2 c (List.mem_append_right _ z))) (fun c z o e => by
              obtain ⟨o', _, g2, _, g4⟩ := kept c z
              rw [e] at g2
              cases g2
              exact g4), ⟨by rw [dropE_length]; exact x'.len, same_cut.trans x'.sub, fun c o e t n => ?_, x2.tabs.up (same_cutS (sB3.trans s') (fun c z => o2 c (List.mem_append_right _ z)) fun c z o e => by
                obtain ⟨o', _, g2, _, g4⟩ := kept c z
                rw [e] at g2
                cases g2
                exact g4), fun k d qk => ?_, fun k mk c hc => ?_, x'.dis⟩, r3.at (fun c hc => ?_) fun b o t n e => ?_, fun c hc => ?_, fun j hj c hc z => ?_, pz, q5⟩
            · rw [if_neg fun z => ?_]
              · exact x'.cl c o e t n
              · obtain ⟨o', _, _, h3, h4⟩ := kept c z
                rw [e] at h3
                cases h3
                exact h4 t
            · rw [dropE_get, Nat.zero_add] at qk
              cases e0 : ρ5[k]? with
              | none => rw [e0] at qk; cases qk
              | some o =>
                rw [e0] at qk
                have qk : keepO (decide (k ∈ own1)) o = some d := Option.some.inj qk
                cases o with
                | none => cases qk
                | some d0 =>
                  unfold keepO at qk
                  simp only at qk
                  split at qk
                  · rename_i cond
                    cases qk
                    obtain ⟨u, h1, h2, h3⟩ := x'.val k d e0
                    refine ⟨u, h1, h2, fun mk => ?_⟩
                    have im : immD d = true := by
                      rw [decide_eq_false mk] at cond
                      simpa using cond
                    refine (h3 mk).imm im fun b o t n e => ?_
                    show (if b ∈ A3 then none else S' b) = some o
                    rw [if_neg fun z => ?_]
                    · exact e
                    · obtain ⟨o', _, g2, _, g4⟩ := kept b z
                      rw [e] at g2
                      cases g2
                      exact g4 t
                  · cases qk
            · obtain ⟨h1, o, h2, h3⟩ := x'.out k mk c hc
              refine ⟨?_, o, h2, h3⟩
              split
              · rfl
              · exact h1
            · obtain ⟨o, h1, _, h3, _⟩ := kept c hc
              rw [h1, h3]
            · exact x'.sub.mv (s'.mv (ext_stt x2.sub e t n) n) n
            · exact if_pos hc
            · obtain ⟨o, _, h2, _, _⟩ := kept c hc
              rw [(x'.out j hj c z).1] at h2; cases h2
          refine ⟨fP, ext S2 H3 A3, ρ2.set t (some ds[i]), ⟨_, _, Same.refl _, x3⟩, pn2.set (by unfold pinM; rw [if_neg htM]; exact hpt), ?_⟩
          unfold forOL at q2
          have bB : Same B (ext S2 H3 A3) := bS.trans (sS.trans (s2.trans sB3))
          cases eb : b (ρ2.set t (some ds[i])) with
          | nx ρ5 => rw [eb] at q2; exact fun σ' H' z pz => next ρ5 σ' H' q2 z pz
          | ct ρ5 => rw [eb] at q2; exact fun σ' H' z pz => next ρ5 σ' H' q2 z pz
          | rt e =>
            rw [eb] at q2
            have q2 : ∀ v H A, Same B H → Fu X.K H v e A → (∀ a ∈ A, B a = none) → D.rt v H := q2
            exact fun v H A s f n => q2 v H A (bB.trans s) f fun a m => bB.free (n a m)
          | bk ρ5 => rw [eb] at q2; exact q2.elim
          | rb e ρ5 => rw [eb] at q2; exact q2.elim
          | st => rw [eb] at q2; exact q2.elim
          | ex c ρ5 => rw [eb] at q2; exact q2.elim
      · have e : i = ds.length := by omega
        subst e
        rw [List.drop_length] at q2
        have q2 : ∀ σ H, Sta own1 B X.K (restE M ρ1 ρ2) σ H → Pin ol.P σ → D.nx σ H := q2
        refine .inl ⟨⟨vs, hq, by omega⟩, q2 σ2 H2 ⟨S2, F2, bS.trans (sS.trans s2), ⟨by unfold restE; rw [setsE_length]; exact x2.len, x2.sub, x2.cl, x2.tabs, fun k e qk => ?_, x2.out, x2.dis⟩⟩ fun j v e => ?_⟩
        · have hk : k < ρ2.length := by
            obtain ⟨h, _⟩ := List.getElem?_eq_some_iff.mp qk
            unfold restE at h
            rw [setsE_length] at h
            exact h
          by_cases mk : k ∈ M
          · unfold restE at qk
            rw [setsE_in mk hk] at qk
            have e1 : ρ1[k]? = some (some e) := by
              cases z : ρ1[k]? with
              | none => rw [z] at qk; cases qk
              | some o => rw [z] at qk; simpa using qk
            obtain ⟨u, h1, _, h3⟩ := y.val k e e1
            have h4 := pn2 k u (by unfold pinM; rw [if_pos mk]; exact (hfP k u).mpr h1)
            exact ⟨u, h4, fun m => absurd (w k m) (hM k mk), fun _ => (h3 (hM k mk)).mono (sS.trans s2)⟩
          · unfold restE at qk
            rw [setsE_out mk] at qk
            exact x2.val k e qk
        · by_cases mj : j ∈ M
          · exact pn2 j v (by unfold pinM; rw [if_pos mj]; exact (hfP j v).mpr (pn j v e))
          · exact pn2 j v (by unfold pinM; rw [if_neg mj]; exact e)
  | _ => exact q.elim
end Vs

namespace Vs
open PySem PySem.Spec PyProof.Rows L2

/-! ### a tuple so many times; a tuple and a new one behind it -/
def mulTD : D → D → R D
  | .tup xs, .int k => if 0 < xs.length ∧ 2 ≤ k ∧ k ≤ 1000 ∧ xs.length ≤ 1000 ∧ immDs xs = true then .ok (.tup (List.replicate k.toNat xs).flatten) else .st
  | _, _ => .st
theorem d_mulT {X : Cx} : OpD X (rRepT X.K) mulTD := fun x y d e H Q z rx ry h q => by
  unfold mulTD at h
  split at h
  · split at h
    · rename_i c
      cases h
      cases ry
      cases rx with
      | tup h1 r1 =>
        refine ⟨_, _, _, rfl, rfl, h1.sq, fun e => ?_, c.2.1, c.2.2.1, by rw [r1.length]; exact c.2.2.2.1, fun p hp => q _ _ [] (new_same hp) (fu_new_tup hp (r1.flat _) (immDs_flat c.2.2.2.2 _)) (fun _ h => nomatch h)⟩
        have := r1.length
        rw [e] at this
        have c1 := c.1
        simp at this
        omega
    · cases h
  · cases h
theorem nx_mulT : NoEx2 mulTD := fun d e c h => by unfold mulTD at h; split at h <;> first | cases h | (split at h <;> cases h)
def catTG : D → D → R D
  | .tup xs, .tup ys => if xs.length + ys.length ≤ sizeLine ∧ immDs xs = true ∧ 0 < xs.length ∧ 0 < ys.length then .ok (.tup (xs ++ ys)) else .st
  | _, _ => .st
theorem vg_catT {X : Cx} {W : WX} {a b : Expr} {f g : Env → R D} {pos : Pos} (ha : VE X W a f) (hb : VG X W b g) : VG X W (.BinOp a .Add b pos) (op2 catTG f g) := ⟨peW (pe_op op_addA ha.pe hb.pe) fun σ H Q ⟨ρ, re, o⟩ => ⟨ρ, re, (Out.bind o).mono fun d _ q v H1 s1 r1 => ⟨ρ, re.mono s1, ((Out.bind q).up s1).mono fun e _ q w H2 A s2 f2 n2 => by
  unfold catTG at q
  split at q
  · split at q
    · rename_i c
      cases r1 with
      | tup h1 r1 =>
        cases f2 with
        | tup h2 r2 =>
          have l1 := r1.length
          have l2 := r2.length
          refine .inr (.inr (.inr ⟨_, _, _, _, rfl, rfl, (seqT s2 h1).sq, h2.sq, by rw [l1, l2]; exact c.1, fun e => ?_, fun _ e => ?_, fun _ _ p hp => ?_⟩))
          · have c1 := c.2.2.1
            rw [e] at l1
            simp at l1
            omega
          · have c1 := c.2.2.2
            rw [e] at l2
            simp at l2
            omega
          · have fx := fun vs => ((r1.mono s2).mono (new_same (o := .tup vs) hp)).fu c.2.1
            exact q _ _ A ((s1.trans s2).trans (new_same hp)) (.tup (.inl upd_same) ((fx _).app (r2.same (new_same hp)) (fun _ z => nomatch z))) fun a ha => s1.free (n2 a ha)
    · exact q.elim
  · exact q.elim⟩⟩⟩

/-! ### x.insert(i, y) -/
theorem Fus.part {K : PySem.W.Frag} {H : Hp} : ∀ (n : Nat) {vs : List V} {ds : List D} {A : List Addr}, Fus K H vs ds A → ∃ A1 A2, Fus K H (vs.take n) (ds.take n) A1 ∧ Fus K H (vs.drop n) (ds.drop n) A2 ∧ (∀ a ∈ A1, a ∈ A) ∧ (∀ a ∈ A2, a ∈ A) ∧ ∀ a ∈ A1, a ∉ A2
  | 0, _, _, A, f => ⟨[], A, .nil, f, (fun _ h => nomatch h), (fun _ h => h), (fun _ h => nomatch h)⟩
  | _ + 1, _, _, _, .nil => ⟨[], [], .nil, .nil, (fun _ h => nomatch h), (fun _ h => nomatch h), (fun _ h => nomatch h)⟩
  | n + 1, _, _, _, @Fus.cons _ _ v vs d ds A B h r m => by
    obtain ⟨A1, A2, g1, g2, g3, g4, g5⟩ := Fus.part n r
    refine ⟨A ++ A1, A2, .cons h g1 fun a ha hb => m a ha (g3 a hb), g2, fun a ha => ?_, fun a ha => List.mem_append_right _ (g4 a ha), fun a ha hb => ?_⟩
    · rcases List.mem_append.mp ha with z | z
      · exact List.mem_append_left _ z
      · exact List.mem_append_right _ (g3 a z)
    · rcases List.mem_append.mp ha with z | z
      · exact m a z (g4 a hb)
      · exact g5 a z hb
def rInsert : V → List V → Hp → VK → Prop := fun x vs H Q => ∃ (l : Addr) (xs : List V) (i : Int) (y : V), x = .ref l ∧ vs = [.int i, y] ∧ H l = some (.lst xs) ∧ xs.length < sizeLine ∧ 0 ≤ i ∧ i < 2 ^ 63 ∧
    Q .non (upd H l (.lst (xs.take i.toNat ++ [y] ++ xs.drop i.toNat)))
theorem mt_insertM {X : Cx} : MtM X "list.insert" rInsert := mt_insert
def insS (i : Nat) (fk fe : Env → R D) (ρ : Env) : Sr := match ρ[i]? with
  | some (some (.lst ds)) => bindS (fk ρ) ρ fun k => match k with
    | .int n => bindS (fe ρ) ρ fun d => if ds.length < sizeLine ∧ 0 ≤ n ∧ n < 2 ^ 63 then .nx (ρ.set i (some (.lst (ds.take n.toNat ++ [d] ++ ds.drop n.toNat)))) else .st
    | _ => .st
  | _ => .st
def popAtS (i : Nat) (fk : Env → R D) (ρ : Env) : Sr := match ρ[i]? with
  | some (some (.lst ds)) => bindS (fk ρ) ρ fun k => match k with
    | .int n => if immDs ds = true ∧ 0 ≤ n ∧ n < ds.length ∧ n < 2 ^ 63 then .nx (ρ.set i (some (.lst (ds.eraseIdx n.toNat)))) else .st
    | _ => .st
  | _ => .st
section
variable {X : Cx} {W : WX} {own own' : List Nat} {ol : Ol} {st : Stmt} {f fk fe : Env → R D}
theorem vs_insert (i : Nat) (p : PS X st (tDrop (tBM X.K "list" rInsert (tVar i) (tCons (tF X.K X.mg W fk) (tCons (tG X.K X.mg W fe) tNil))))) (hi : i ∈ own := by decide) (we : ∀ i ∈ ol.e, i ∈ own := by first | decide | (dsimp only; decide)) : VS X W own own ol st (insS i fk fe) := ⟨psW p fun D σ H ⟨B, ρ, x, pn, q⟩ => by
  unfold insS at q
  split at q
  · rename_i ds ei
    have q := SEnd.out x pn we q
    have xs0 := x
    obtain ⟨S, F, b, y⟩ := x
    obtain ⟨v, h1, h2, _⟩ := y.val i _ ei
    obtain ⟨pa, vs, A', rfl, eF, hp, r, n⟩ := (h2 hi).list
    refine ⟨_, h1, .inl ⟨rfl, _, .inl (.inl hp)⟩, ρ, y.env, q.mono fun k _ q w0 H0 s0 r0 => ?_⟩
    cases r0 with
    | int m =>
      have y0 := y.grow s0 (A := []) (fun _ z => nomatch z)
      have q := SEnd.out (xs0.grow s0) pn we q
      refine ⟨ρ, y0.env, q.mono fun d _ q w H1 C s1 f1 n1 => ?_⟩
      by_cases hz : ds.length < sizeLine ∧ 0 ≤ m ∧ m < 2 ^ 63
      rotate_left
      · rw [if_neg hz] at q; exact q.elim
      rw [if_pos hz] at q
      have hp0 := s0.mv hp
      refine ⟨pa, vs, m, w, rfl, rfl, s1.mv hp0, by rw [r.length]; exact hz.1, hz.2.1, hz.2.2, ?_⟩
      have y1 := y0.grow s1 (A := []) (fun _ z => nomatch z)
      have mp : pa ∈ F i := by rw [eF]; exact List.mem_cons_self
      have fr := y0.fresh s1 f1 n1
      have hpq : ∃ o, H1 pa = some o ∧ ¬ Stt o := ⟨_, s1.mv hp0, fun z => (show False from z)⟩
      have nC : pa ∉ C := fun z => by have := n1 pa z; rw [hp0] at this; cases this
      obtain ⟨A1, A2, g1, g2, g3, g4, g5⟩ := Fus.part m.toNat ((r.same s0).same s1)
      have offC : ∀ a ∈ A', a ∉ C := fun a ha hb => (fr a hb).2 i hi (by rw [eF]; exact List.mem_cons_of_mem _ ha)
      have r1 : Fus X.K H1 (vs.take m.toNat ++ [w] ++ vs.drop m.toNat) (ds.take m.toNat ++ [d] ++ ds.drop m.toNat) (A1 ++ (C ++ []) ++ A2) := (g1.app (.cons f1 .nil fun _ _ z => nomatch z) fun a ha hb => by
        rw [List.append_nil] at hb
        exact offC a (g3 a ha) hb).app g2 fun a ha hb => by
          rcases List.mem_append.mp ha with z | z
          · exact g5 a z hb
          · rw [List.append_nil] at z
            exact offC a (g4 a hb) z
      rw [List.append_nil] at r1
      have n2 : pa ∉ A1 ++ C ++ A2 := fun z => by
        rcases List.mem_append.mp z with z | z
        · rcases List.mem_append.mp z with z | z
          · exact n (g3 pa z)
          · exact nC z
        · exact n (g4 pa z)
      refine q _ _ ⟨_, _, b.trans ((ext_s (H := H0) []).trans (ext_s [])), y1.mut hi h1 hpq (y1.out i hi pa mp).1 (fun j m ne z => y.dis j m i hi ne pa z mp) (fun z => (show False from z)) (fu_relist hpq r1 n2) fun a ha => ?_⟩ pn
      have old : ∀ a, a ∈ F i → ext (ext S H0 []) H1 [] a = none ∧ ∀ j ∈ own, j ≠ i → a ∉ F j := fun a hm => ⟨(y1.out i hi a hm).1, fun j m ne z' => y.dis j m i hi ne a z' hm⟩
      rcases List.mem_cons.mp ha with z | z
      · rw [z]
        exact old pa mp
      · rcases List.mem_append.mp z with z | z
        · rcases List.mem_append.mp z with z | z
          · exact old a (by rw [eF]; exact List.mem_cons_of_mem _ (g3 a z))
          · exact ⟨(fr a z).1, fun j m _ => (fr a z).2 j m⟩
        · exact old a (by rw [eF]; exact List.mem_cons_of_mem _ (g4 a z))
    | _ => exact q.elim
  · exact q.elim⟩
theorem seqIndex_nat {i : Int} {l : Nat} (h0 : 0 ≤ i) (h : i < l) : seqIndex? i l = some i.toNat := by
  unfold seqIndex?
  have n : ¬ i < 0 := by omega
  simp [n, h0, h]
theorem Rds.eraseIdx {K : PySem.W.Frag} {H : Hp} : ∀ (n : Nat) {vs : List V} {ds : List D}, Rds K H vs ds → Rds K H (vs.eraseIdx n) (ds.eraseIdx n)
  | _, _, _, .nil => .nil
  | 0, _, _, .cons _ r => r
  | n + 1, _, _, .cons h r => .cons h (Rds.eraseIdx n r)
theorem immDs_erase : ∀ (n : Nat) {ds : List D}, immDs ds = true → immDs (ds.eraseIdx n) = true
  | _, [], h => h
  | 0, x :: ds, h => by
    rw [immDs, Bool.and_eq_true] at h
    exact h.2
  | n + 1, x :: ds, h => by
    rw [immDs, Bool.and_eq_true] at h
    show (immD x && immDs (ds.eraseIdx n)) = true
    rw [h.1, immDs_erase n h.2]
    rfl
theorem vs_popAt (i : Nat) (p : PS X st (tDrop (tBM X.K "list" rPopAt (tVar i) (tCons (tF X.K X.mg W fk) tNil)))) (hi : i ∈ own := by decide) (we : ∀ i ∈ ol.e, i ∈ own := by first | decide | (dsimp only; decide)) : VS X W own own ol st (popAtS i fk) := ⟨psW p fun D σ H ⟨B, ρ, x, pn, q⟩ => by
  unfold popAtS at q
  split at q
  · rename_i ds ei
    have q := SEnd.out x pn we q
    obtain ⟨S, F, b, y⟩ := x
    obtain ⟨v, h1, h2, _⟩ := y.val i _ ei
    obtain ⟨pa, vs, A', rfl, eF, hp, r, n⟩ := (h2 hi).list
    refine ⟨_, h1, .inl ⟨rfl, _, .inl (.inl hp)⟩, ρ, y.env, q.mono fun k _ q w0 H0 s0 r0 => ?_⟩
    cases r0 with
    | int m =>
      simp only at q
      by_cases hz : immDs ds = true ∧ 0 ≤ m ∧ m < ds.length ∧ m < 2 ^ 63
      rotate_left
      · rw [if_neg hz] at q; exact q.elim
      rw [if_pos hz] at q
      obtain ⟨im, z0, z1, z2⟩ := hz
      have hl := r.length
      have hp0 := s0.mv hp
      have hk : m.toNat < vs.length := by omega
      have e63 : (2 : Int) ^ 63 = 9223372036854775808 := by decide
      refine ⟨pa, vs, m, m.toNat, vs[m.toNat], rfl, rfl, hp0, by rw [e63]; omega, z2, seqIndex_nat z0 (by omega), List.getElem?_eq_getElem hk, ?_⟩
      have y1 := y.grow s0 (A := []) (fun _ z => nomatch z)
      have mp : pa ∈ F i := by rw [eF]; exact List.mem_cons_self
      have hpq : ∃ o, H0 pa = some o ∧ ¬ Stt o := ⟨_, hp0, fun z => (show False from z)⟩
      have r1 : Fus X.K H0 (vs.eraseIdx m.toNat) (ds.eraseIdx m.toNat) [] := ((r.rd.mono s0).eraseIdx m.toNat).fu (immDs_erase _ im)
      refine q _ _ ⟨_, _, b.trans (ext_s []), y1.mut hi h1 hpq (y1.out i hi pa mp).1 (fun j m ne z => y.dis j m i hi ne pa z mp) (fun z => (show False from z)) (fu_relist hpq r1 (fun z => nomatch z)) fun a ha => ?_⟩ pn
      rcases List.mem_cons.mp ha with z | z
      · rw [z]
        exact ⟨(y1.out i hi pa mp).1, fun j m ne z' => y.dis j m i hi ne pa z' mp⟩
      · cases z
    | _ => exact q.elim
  · exact q.elim⟩
end
end Vs

namespace Vs
open PySem PySem.Spec PyProof.Rows L2

/-! ### what stands in a frozen list stays frozen -/
def shal : D → D
  | .fz xs => .lst xs
  | d => d
theorem Rd.shal {K : PySem.W.Frag} {H : Hp} {v : V} {d : D} (r : Rd K H v d) : Rd K H v (Vs.shal d) := by
  cases r with
  | fz h r => exact .lst (.inl (.inr ⟨_, h⟩)) r
  | non => exact .non
  | bl b => exact .bl b
  | int i => exact .int i
  | str x => exact .str x
  | fn n => exact .fn n
  | exc c a => exact .exc c a
  | cl h1 h2 => exact .cl h1 h2
  | lst h r => exact .lst h r
  | tup h r => exact .tup h r
  | dk h q r => exact .dk h q r
  | dt h q r => exact .dt h q r
  | obj h h2 n q r => exact .obj h h2 n q r
def shalE (f : Env → R D) (ρ : Env) : R D := (f ρ).bind fun d => .ok (shal d)
section
variable {X : Cx} {W : WX} {e : Expr} {f : Env → R D} {own : List Nat}
theorem VE.shal (v : VE X W e f) : VE X W e (shalE f) := ⟨peW v.pe fun σ H Q ⟨ρ, r, o⟩ => ⟨ρ, r, (Out.bind o).mono fun d _ q v H' s rd => q v H' s rd.shal⟩⟩
theorem VP.shal (v : VP X W own e f) : VP X W own e (shalE f) := ⟨peW v.pe fun σ H Q ⟨ρ, S, F, st, o⟩ => ⟨ρ, S, F, st, (Out.bind o).mono fun d _ q v H' A s n rd => q v H' A s n rd.shal⟩⟩
end
end Vs
namespace Vs
open PySem PySem.Spec PyProof.Rows L2
/-! ### isinstance(e, (x, y, ..)), e the caught error -/
def rIsET (K : PySem.W.Frag) (D a : Addr) : List V → Hp → VK → Prop := fun xs H Q => ∃ (tp : Addr) (cs : List V) (us : List Value) (b : Bool), xs = [.ref a, .ref tp] ∧ H tp = some (.tup cs) ∧ Paired ClsV cs us ∧ PySem.W.kitAny K (.ref D) us = some b ∧ Q (.bl b) H
theorem call_isET {X : Cx} {a D : Addr} {oe : Obj} {pn : List (Addr × Obj)} (C : ExcC X.K D) (hz : Zc (.ref D) none oe) (hf : ∃ vs, oe.data = .fields vs) : CallR (X.suite a ((a, oe) :: pn)) (.builtin "isinstance") (rIsET X.K D a) := by
  intro pins s σ H xs us Q I r h
  obtain ⟨tp, cs, ws, b, rfl, hT, k, e, q⟩ := h
  obtain ⟨u1, u2, rfl, r1, r2⟩ := vals2 r
  cases (show u2 = Value.ref tp from r2)
  cases (show u1 = Value.ref a from r1)
  obtain ⟨hget, _⟩ := I.pin (a, oe) (List.mem_append.mpr (.inl List.mem_cons_self))
  obtain ⟨vs, hv⟩ := hf
  have J : PySem.W.InstAt s.heap a oe D none := by
    obtain ⟨oc, od, oda, osl⟩ := oe
    obtain ⟨h1, h2⟩ := hz
    dsimp only at h1 h2 hv
    subst h1 h2 hv
    exact ⟨hget, rfl, rfl, trivial⟩
  obtain ⟨_, its, rv, o, h1, h2, n, h3⟩ := (show ObjOk X.prog X.w H s.heap tp (.tup cs) from I.hok tp _ hT)
  have e3 := ClsV.all k rv
  subst e3
  obtain ⟨oc, od, dt, sl⟩ := o
  simp only at h2 h3
  subst h2 h3
  exact PySem.W.kia_tup (PySem.W.handS_kitx_exc C.hg C.hk C.hs C.hd C.ha C.hn C.ht C.hm) I.kIn J h1 e (fun z => nomatch z) fun tk => ⟨.bl b, H, I.kept (t' := tk) fun _ _ z => z, rfl, q⟩
structure VCs (X : Cx) (es : List Expr) (xs : List Str) : Prop where
  ex : ∃ (cs : List V) (us : List Value), PA X es (fun _ H Q => Q cs H) ∧ Paired ClsV cs us ∧ Paired (fun (x : Str) (cv : Value) => X.mg x = some cv ∨ (X.mg x = none ∧ bootBuiltins x = some cv)) xs us
theorem vcs_nil {X : Cx} : VCs X [] [] := ⟨[], [], paW pa_nil fun σ H Q q => q, .nil, .nil⟩
theorem vcs_own {X : Cx} {es : List Expr} {x : Str} {xs : List Str} {p : Pos} (hgx : Gl X x) (hx : ∃ C, X.mg x = some (.ref C)) (hr : VCs X es xs) (hdb : (x == ("__debug__" : Str)) = false := by decide) (hs : starEach (.Name x p :: es) X.env = (false, eval (.Name x p) X.env) :: starEach es X.env := by rfl) : VCs X (.Name x p :: es) (x :: xs) := by
  obtain ⟨cs, us, h1, h2, h3⟩ := hr
  obtain ⟨C, hC⟩ := hx
  exact ⟨.ref C :: cs, .ref C :: us, paW (pa_cons (pe_glob (v := .ref C) hgx hC rfl hdb) h1 hs) fun σ H Q q => q, .cons (.own C) h2, .cons (.inl hC) h3⟩
def isXRs (tb : List (Str × List (Str × Bool))) (c : Str) : List Str → R D
  | [] => .ok (.bl false)
  | x :: xs => match isXR tb c x, isXRs tb c xs with
    | .ok (.bl b), .ok (.bl b') => .ok (.bl (b || b'))
    | _, _ => .st
theorem isXRs_ok {tb : List (Str × List (Str × Bool))} {c : Str} {K : PySem.W.Frag} {mg : Str → Option Value} {C : Addr} (T : IsT K mg tb) (hc : mg c = some (.ref C)) : ∀ {xs : List Str} {us : List Value}, Paired (fun (x : Str) (cv : Value) => mg x = some cv ∨ (mg x = none ∧ bootBuiltins x = some cv)) xs us →
    isXRs tb c xs = .st ∨ ∃ b, isXRs tb c xs = .ok (.bl b) ∧ PySem.W.kitAny K (.ref C) us = some b ∧ (xs ≠ [] → ExcC K C)
  | _, _, .nil => .inr ⟨false, rfl, rfl, fun z => absurd rfl z⟩
  | _, _, @Paired.cons _ _ _ x cv xs us h r => by
    unfold isXRs
    rcases isXR_ok (c := c) (x := x) T with e | ⟨b, e, C', cv', h1, h2, h3, h4⟩
    · rw [e]
      exact .inl rfl
    · rw [hc] at h1
      cases h1
      have ecv : cv' = cv := by
        rcases h with h | ⟨h, h'⟩ <;> rcases h3 with q | ⟨q, q'⟩
        · rw [h] at q; cases q; rfl
        · rw [h] at q; cases q
        · rw [h] at q; cases q
        · rw [h'] at q'; cases q'; rfl
      subst ecv
      rw [e]
      rcases isXRs_ok T hc r with e2 | ⟨b', e2, k2, _⟩
      · rw [e2]
        exact .inl rfl
      · rw [e2]
        refine .inr ⟨b || b', rfl, ?_, fun _ => h2⟩
        unfold PySem.W.kitAny
        rw [h4]
        cases b with
        | true => rfl
        | false => exact k2
theorem paired_len {α β : Type} {F : α → β → Prop} : ∀ {xs : List α} {ys : List β}, Paired F xs ys → xs.length = ys.length
  | _, _, .nil => rfl
  | _, _, .cons _ r => by rw [List.length_cons, List.length_cons, paired_len r]
theorem vg_isEN {X : Cx} {W : WX} {C a : Addr} {oe : Obj} {pn : List (Addr × Obj)} {tb : List (Str × List (Str × Bool))} {c n : Str} {xs : List Str} {es : List Expr} {k : Nat} {p p1 p2 pos : Pos} {i : Nat} (T : IsT X.K X.mg tb) (hc : X.mg c = some (.ref C)) (hz : Zc (.ref C) none oe) (hf : ∃ vs, oe.data = .fields vs)
    (hg : Gl (X.suite a ((a, oe) :: pn)) "isinstance") (hm : X.mg "isinstance" = none) (pv : PE (X.suite a ((a, oe) :: pn)) (.Name n p1) (tVar i)) (hcs : VCs (X.suite a ((a, oe) :: pn)) es xs) (hl : xs.length ≤ 1000 := by decide) (hne : xs ≠ [] := by exact List.cons_ne_nil _ _)
    (he : starEach [.Name n p1, .Tuple es k p2] (X.suite a ((a, oe) :: pn)).env = (false, eval (.Name n p1) X.env) :: starEach [.Tuple es k p2] X.env := by rfl) (he2 : starEach [.Tuple es k p2] (X.suite a ((a, oe) :: pn)).env = [(false, eval (.Tuple es k p2) X.env)] := by rfl) (hpl : (backTo pos (starEach [.Tuple es k p2] (X.suite a ((a, oe) :: pn)).env)).any (·.1) = false := by rfl) :
    VG (X.suite a ((a, oe) :: pn)) W (.Call (.Name "isinstance" p) [.Name n p1, .Tuple es k p2] [] pos) (isE i a (isXRs tb c xs)) := by
  obtain ⟨cs, us, h1, h2, h3⟩ := hcs
  rcases isXRs_ok (c := c) T hc h3 with e | ⟨b, e, hk, hC⟩
  · refine ⟨⟨fun pins s σ H Q I ⟨ρ, re, q⟩ => ?_⟩⟩
    unfold isE at q
    rw [e] at q
    exfalso
    split at q
    · split at q
      · exact q
      · exact q
    · exact q
  · refine ⟨peW (pe_callB (call_isET (hC hne) hz hf) hg hm boot_isinstance (pa_cons pv (pa_cons (pe_tup h1) pa_nil he2) he) (by decide) (by decide) he hpl) fun σ H Q ⟨ρ, re, q⟩ => ?_⟩
    unfold isE at q
    rw [e] at q
    split at q
    · rename_i e0 a' ea
      split at q
      · rename_i z
        subst z
        obtain ⟨w, g1, g2⟩ := re.val i _ ea
        cases g2
        refine ⟨_, g1, le_line ((paired_len h2).trans (paired_len h3).symm) hl, fun p hp => ?_⟩
        exact ⟨p, cs, us, b, rfl, upd_same, h2, hk, q _ _ [] (new_same hp) (.bl _) (fun _ h => nomatch h)⟩
      · exact q.elim
    · exact q.elim
end Vs

namespace Vs
open PySem PySem.Spec PyProof.Rows L2

/-! ### a new thing, frozen at once -/
def fzE (f : Env → R D) (ρ : Env) : R D := (f ρ).bind fun d => if immD (fzD d) = true then .ok (fzD d) else .st
theorem peG {X : Cx} {e : Expr} {t u : TE} (h : PE X e u) (q : ∀ σ H Q, t σ H Q → u σ H fun x H' => ∀ pins s, Inv X pins σ H' s → ∃ H'', Inv X pins σ H'' s ∧ Q x H'') : PE X e t :=
  ⟨fun pins s σ H Q I x => thn (h.run pins s σ H _ I (q σ H Q x)) fun v s' ⟨y, H', I', r, z⟩ => by
    obtain ⟨H'', I'', z'⟩ := z pins s' I'
    exact ⟨y, H'', I'', r, z'⟩⟩
theorem vg_fz {X : Cx} {W : WX} {e : Expr} {f : Env → R D} (v : VG X W e f) : VG X W e (fzE f) := ⟨peG v.pe fun σ H Q ⟨ρ, re, o⟩ => ⟨ρ, re, (Out.bind (show Out X.mg W σ H (fzE f ρ) _ from o)).mono fun d _ q v H1 A s1 f1 n1 pins s I => by
  by_cases m : immD (fzD d) = true
  rotate_left
  · rw [if_neg m] at q; exact q.elim
  rw [if_pos m] at q
  obtain ⟨H2, I2, k1, k2⟩ := lock_all I A (f1.lists m)
  have hT : ∀ b o, Stt o → NTb o → H1 b = some o → H2 b = some o := fun b o t _ e => by
    rw [k1 b fun z => ?_]
    · exact e
    · obtain ⟨o', e', n⟩ := f1.soft b z
      rw [e] at e'; cases e'; exact n t
  refine ⟨H2, I2, q v H2 [] (s1.lock n1 k1 hT) (f1.frz m k2 hT) (fun _ z => nomatch z)⟩⟩⟩
end Vs

namespace Vs
open PySem PySem.Spec PyProof.Rows L2

/-! ### a plain slice of a list as a source -/
def slLE (f : Env → R D) (lo hi : Env → R (Option Int)) (ρ : Env) : R D := (f ρ).bind fun d => (lo ρ).bind fun l => (hi ρ).bind fun u => match d with
  | .lst xs => .ok (.lst (cutL xs l u))
  | _ => .st
section
variable {X : Cx} {W : WX} {own : List Nat} {a : Expr} {f : Env → R D} {lo hi : Option Expr} {l u : Env → R (Option Int)} {p2 pos : Pos}
theorem vp_sl (ha : VP X W own a f) (hl : VO X W lo l) (hu : VO X W hi u) : VP X W own (.Subscript a (.Slice lo hi none p2) pos) (slLE f l u) :=
  ⟨peW (pe_slice sl_list ha.pe hl.po hu.po) fun σ H Q ⟨ρ, S, F, st, z⟩ => ⟨ρ, S, F, st, (Out.bind z).mono fun d _ q v H1 A s1 n1 r1 => ⟨ρ, st.env.mono s1, ((Out.bind q).up s1).mono fun l _ q H2 s2 => ⟨ρ, st.env.mono (s1.trans s2), ((Out.bind q).up (s1.trans s2)).mono fun u _ q H3 s3 => by
    split at q
    · have sX := s2.trans s3
      have m := ext_mono (A := A) sX (st.sub.trans s1)
      cases r1 with
      | lst h1 r1 =>
        have h1 := m.seq h1
        have r1 := r1.mono m
        have sS : Same S H3 := st.sub.trans (s1.trans sX)
        refine ⟨_, _, rfl, (ext_h sS A).seq h1, fun p hp => ?_⟩
        exact q _ _ (p :: A) ((s1.trans sX).trans (new_same hp)) (fun a m => (List.mem_cons.mp m).elim (fun z => by rw [z]; exact (s1.trans sX).free hp) fun z => n1 a z) (.lst (SqL.of (ext_at (sS.trans (new_same hp)) upd_same List.mem_cons_self)) ((r1.mono ((ext_mono (A := A) (new_same hp) sS).trans (ext_sup fun a m => List.mem_cons_of_mem _ m))).cut _ _))
    · exact q.elim⟩⟩⟩⟩
end
end Vs

namespace Vs
open PySem PySem.Spec PyProof.Rows L2

/-! ### a comprehension that lets a call's exception out -/
/-- a block's context with its own wish about exceptions -/
abbrev blkE (X : Cx) (s : Shared) (H : Hp) (scope : Scope) (cenv : PySem.Env) (fp : List Addr) (xe : Value → Shared → Prop) : Cx := { X.blk s H scope cenv fp with xe := xe }
theorem invE {X : Cx} {xe : Value → Shared → Prop} {pins : List (Addr × Obj)} {σ : L2.St} {H : Hp} {s : Shared} (I : Inv X pins σ H s) : Inv { X with xe := xe } pins σ H s :=
  ⟨⟨I.ok.mod, I.ok.kind, I.ok.glob, I.ok.blt, I.ok.above, I.ok.inj, I.ok.has, I.ok.cab, I.ok.hd, I.ok.frames, I.ok.stk, I.ok.exf, I.ok.bs, I.ok.bsz, I.ok.noex, I.ok.exfs, I.ok.funs, I.ok.frf⟩, I.os, I.bare, I.base, I.loc, I.cell, I.free, I.freeC, I.pin, I.hok, I.len⟩
theorem noteFrame_same {e : Value} {env env' : PySem.Env} (h : env'.frame = env.frame) : noteFrame e env' = noteFrame e env := by
  unfold noteFrame PySem.frameOf
  rw [h]
theorem funFrames_at {base B h h' : Heap} (hB : ∀ b, base.get? b = none → B.get? b = none) : ∀ {l : List PySem.Env}, h.FunFrames base l → (∀ b ∈ frs l, h'.get? b = h.get? b) → h'.FunFrames B l
  | [], _, _ => trivial
  | env :: l, h, k => by
    obtain ⟨hk, ⟨L, o, hf, hb, ho, hd⟩, hr⟩ := h
    exact ⟨hk, ⟨L, o, hf, hB _ hb, (k L (List.mem_filterMap.mpr ⟨env, List.mem_cons_self, hf⟩)).trans ho, hd⟩, funFrames_at hB hr fun b hb => by
      obtain ⟨e, he, q⟩ := List.mem_filterMap.mp hb
      exact k b (List.mem_filterMap.mpr ⟨e, List.mem_cons_of_mem _ he, q⟩)⟩
theorem block_fails {X : Cx} {W : WX} {pins pinsb : List (Addr × Obj)} {σ σ9 : L2.St} {H3 H9 : Hp} {s3 s9 s' : Shared} {scope : Scope} {ce : PySem.Env} {fp : List Addr} {xe : Value → Shared → Prop} {E : XK} {u : Value}
    (hs : X.stack = X.env :: X.outer) (hf : X.env.frame = some X.env.locals) (tk : Takes X W) (I3 : Inv X pins σ H3 s3) (f3 : ∀ b ∈ fp, FpOk X pins H3 b ∧ b < s3.heap.objs.size) (hL : ce.locals = s3.heap.objs.size) (hfr : ce.frame = X.env.frame)
    (Ib : Inv (blkE X s3 H3 scope ce fp xe) pinsb σ9 H9 s9) (c : L2.CX X.prog X.w X.stack H9 s9 E u s') (hE : ∀ cls d H', E cls d H' → W cls d σ H') :
    notedBy (model X.prog X.w) X.A ce (CompFails (model X.prog X.w) X.A X.xe ce) u s' := by
  obtain ⟨a, B, H', cls, d, rfl, fl, hok, ub, na, os, ag, hw⟩ := c
  -- the state without the exception
  obtain ⟨G, g1, g2⟩ := restrict s'.heap fun b => (B.get? b).isSome || decide (b ∈ frs X.stack)
  have st : B.StaysIn s'.heap := fl.1
  have gB : ∀ b o, B.get? b = some o → G.get? b = some o := fun b o e => by
    rw [g1 b (by simp [e])]
    exact st b o e
  have gF : ∀ b, b ∈ frs X.stack → G.get? b = s'.heap.get? b := fun b hb => g1 b (by simp [hb])
  have og : ∀ b o, G.get? b = some o → s'.heap.get? b = some o ∧ ((B.get? b).isSome = true ∨ b ∈ frs X.stack) := fun b o e => by
    cases q : ((B.get? b).isSome || decide (b ∈ frs X.stack)) with
    | false => rw [g2 b q] at e; cases e
    | true =>
      rw [g1 b q] at e
      exact ⟨e, by simpa [Bool.or_eq_true] using q⟩
  have nb : ∀ b o, G.get? b = some o → b ∉ frs X.stack → B.get? b = some o := fun b o e hb => by
    obtain ⟨e', h⟩ := og b o e
    rcases h with h | h
    · obtain ⟨o', q⟩ := Option.isSome_iff_exists.mp h
      have z := st b o' q
      rw [e'] at z; cases z
      exact q
    · exact absurd h hb
  have I' : Inv (blkE X s3 H3 scope ce fp xe) pinsb σ9 H' { s9 with heap := G, gens := s'.gens, drawn := s'.drawn, toks := s'.toks } := by
    refine Ib.call (ch := []) ⟨fun b o e n hb _ => gB b o (ub.keep b o e n hb), fun b o e n hb _ => ?_, fun b o e n _ => ub.free b o e n, fun b o e _ => ?_, ub.tups, ub.frzs, ub.tbls⟩ (hok.kept gB) ag (fun _ z => nomatch z)
    · obtain ⟨sl, q⟩ := ub.slot b o e hb
      exact ⟨sl, by rw [gF b hb]; exact q⟩
    · by_cases hb : b ∈ frs X.stack
      · obtain ⟨sl, q⟩ := ub.slot b o e hb
        exact ⟨_, by rw [gF b hb]; exact q⟩
      · obtain ⟨o', q⟩ := ub.there b o e hb
        exact ⟨o', gB b o' q⟩
  generalize hsI : ({ s9 with heap := G, gens := s'.gens, drawn := s'.drawn, toks := s'.toks } : Shared) = sI at I'
  have hGI : sI.heap = G := by rw [← hsI]
  have hos : s'.os = sI.os := by rw [← hsI]; exact os
  -- in the def's context
  have I7 : Inv X pins σ H' sI := I3.call' (ch := fp) I'.os I'.base I'.hok I'.bare fun b hb => ⟨(f3 b hb).1.2.2.2.1, (f3 b hb).1.2.1, (f3 b hb).1.2.2.2.2.1, (f3 b hb).1.2.2.2.2.2⟩
  have nC : H' s3.heap.objs.size = none := by
    have z : H' ce.locals = none := I'.free
    rw [hL] at z
    exact z
  obtain ⟨f0, f1, f2, f3', f4, f5⟩ := I3.fpOk (H' := H') (Nat.le_refl s3.heap.objs.size) nC
  obtain ⟨m, hn, _⟩ := I'.loc
  have hn : sI.heap.Ns ce.locals m := hn
  rw [hL, hGI] at hn
  have hCst : s3.heap.objs.size ∉ frs X.stack := fun z => by
    rcases List.mem_cons.mp (I3.stkSub _ z) with q | q
    · exact f1 q
    · exact f2 q
  -- noted
  unfold notedBy
  rw [noteFrame_same hfr]
  have hXf : X.A.frames = some (X.env :: X.outer) := by rw [I3.ok.frames, hs]
  rw [hs] at fl
  refine HandSPX.looks_onZ Zc.steady hXf hf fl fun h1 hh up1 => ?_
  obtain ⟨k1, k2, k3, k4⟩ := hh
  obtain ⟨oC, es, ep, hoC, hdC, hstr, hfnd⟩ := hn
  have hBC : B.get? s3.heap.objs.size = some oC := nb _ _ hoC hCst
  refine ⟨m, ⟨oC, es, ep, by rw [hL]; exact k1 _ _ hBC, hdC, hstr, hfnd⟩, fun h2 m' hn' sb => ?_⟩
  rw [hL] at sb
  -- the block's names leave the ground
  generalize hB' : PySem.W.hideAll B [s3.heap.objs.size] = B'
  have bg : ∀ b o, B'.get? b = some o → B.get? b = some o ∧ b ≠ s3.heap.objs.size := fun b o e => by
    rw [← hB'] at e
    refine ⟨PySem.W.of_hideAll _ e, fun z => ?_⟩
    rw [PySem.W.hideAll_none _ (by simp [z])] at e
    cases e
  have bn : ∀ b, B.get? b = none → B'.get? b = none := fun b e => by
    cases q : B'.get? b with
    | none => rfl
    | some o => rw [(bg b o q).1] at e; cases e
  have st2 : B'.StaysIn h2 := fun b o e => (sb.2 b (bg b o e).2).trans (k1 b o (bg b o e).1)
  have fr2 : h2.FunFrames B' (X.env :: X.outer) := funFrames_at bn k3 fun b hb => sb.2 b fun z => hCst (by rw [hs, ← z]; exact hb)
  obtain ⟨oe, vs, T, oT, ts, he, hz, hd, h1', hnT, hTe, hT, hdT, h3⟩ := k4
  have aC : a ≠ s3.heap.objs.size := fun z => by rw [z, hBC] at k2; cases k2
  have TC : T ≠ s3.heap.objs.size := fun z => by rw [z, hBC] at hnT; cases hnT
  have he2 : h2.get? a = some oe := (sb.2 a aC).trans he
  have hT2 : h2.get? T = some oT := (sb.2 T TC).trans hT
  unfold PySem.passOn
  refine wpAny_bind (wpAny_field he2 hd h1' ?_)
  rw [if_neg (by simp)]
  refine (wpAny_bind (HandSPX.setFlight_anyZ st2 fr2 ⟨oe, vs, T, oT, ts, he2, hz, hd, h1', bn _ hnT, hTe, hT2, hdT, h3⟩ fun h4 x1 x2 x3 x4 => wpAny_throw ?_))
  refine tk _ _ ⟨a, B', { sI with heap := PySem.W.hideAll sI.heap [s3.heap.objs.size], toks := sI.toks }, pins, σ, H', cls, d, rfl, ?_, fun b o e hb => ?_, fun b o e hnf => ?_, .inr (.inr ?_), na, hos, ag, hE _ _ _ hw⟩
  · exact I7.turned (fun b o hb e => PySem.W.hideAll_get _ e (by simp [hb])) f0 f1 f3' f4 f5
  · have e1 := PySem.W.of_hideAll _ e
    rw [hGI] at e1
    have hbC : b ≠ s3.heap.objs.size := fun z => by
      rw [PySem.W.hideAll_none _ (by simp [z])] at e
      cases e
    rw [← hB']
    exact PySem.W.hideAll_get _ (nb b o e1 hb) (by simp [hbC])
  · have e1 := PySem.W.of_hideAll _ e
    rw [hGI] at e1
    have hbC : b ≠ s3.heap.objs.size := fun z => by
      rw [PySem.W.hideAll_none _ (by simp [z])] at e
      cases e
    obtain ⟨sl1, q1⟩ := up1 b o (og b o e1).1 hnf
    obtain ⟨sl2, q2⟩ := x4 b { o with slots := sl1 } ((sb.2 b hbC).trans q1) hnf
    exact ⟨sl2, q2⟩
  · rw [hs]
    refine ⟨x1, bn _ k2, x2, ?_⟩
    rw [hfr, hf] at x3
    exact x3
section
variable {X : Cx} {W : WX}
theorem lc_coreX {pins : List (Addr × Obj)} {s : Shared} {σ : L2.St} {H : Hp} {Q : VK} {elt tg iter : Expr} {scope : Scope} {own : List (Str × Nat)} {pos pos' : Pos} {wi : TI} {g : TG} {te : TE} {use : Option (Value → Sem Unit)} {Qf : Value → Shared → Prop}
    (hst : X.stack = X.env :: X.outer) (hf : X.env.frame = some X.env.locals) (tk : Takes X W)
    (hc : X.calm = true) (hN : X.N.Nodup) (I : Inv X pins σ H s) (hi : PI X tg iter wi) (ok : BlkOk X.N X.env.scope scope own)
    (hg : ∀ (s : Shared) (H : Hp) (C : Addr) (cl : List (Str × Addr)) (fp : List Addr) (xe : Value → Shared → Prop), PG (blkE X s H scope (compEnvC scope cl C X.env) fp xe) tg g)
    (he : ∀ (s : Shared) (H : Hp) (C : Addr) (cl : List (Str × Addr)) (fp : List Addr) (xe : Value → Shared → Prop), (∀ σ', PassesAt (L2.CX X.prog X.w) (blkE X s H scope (compEnvC scope cl C X.env) fp xe) σ' fun cls d H' => W cls d σ H') → PE (blkE X s H scope (compEnvC scope cl C X.env) fp xe) elt te)
    (hs : ∀ x, foldedSetIterable iter X.env x = pure x)
    (h : tLc wi g tYes te (own.map (·.2)) σ H Q)
    (hRR : ∀ D ce s' m H', Inv X pins σ H' s' → Q (.ref D) H' → s'.heap.Ns ce.locals m → FpOk X pins H' ce.locals → compEnds (model X.prog X.w) X.A X.xe use Qf (.ref D) ce (.ok .next) s') :
    wpAny (model X.prog X.w) X.A (comprehension (.ListComp elt [⟨tg, iter, [], 0⟩] scope pos) scope X.env pos' (newList []) false (eval iter X.env) use) Qf X.xe s := by
  have hfree : ∀ y ∈ scope.names, y.2 = .free → ∃ c, X.env.cells.lookup y.1 = some c := fun y hy e => by
    rcases ok.free y hy e with k | k
    · exact I.ok.has _ (.inl k)
    · exact I.ok.has _ (.inr k)
  refine comprehension_at (use := use) rfl hs (closure_ok hfree) ok.kind (fun y hy e => by rw [ok.uniq y hy, e])
    (thn (hi.run pins s σ H _ I h) fun xv s1 hx => thn hx fun itv s2 h2 => ?_)
  obtain ⟨it, fp, tn, J, H2, e, I2, T, st2, f2, q⟩ := h2
  subst e
  refine wpAny_newObj_type (newEnv_comp ?_) (by show 0 ≤ sizeLine; decide)
  generalize hD : s2.heap.objs.size = D
  have hDn : H2 D = none := I2.hok.fresh (Nat.le_of_eq hD)
  obtain ⟨Wi, ⟨m0, w0⟩, turn⟩ := q D hDn
  -- the new list
  generalize hs3 : ({ s2 with heap := s2.heap.push { cls := .type "list", data := .seq ([] : List Value).toArray } } : Shared) = s3
  have I3 : Inv X pins σ (upd H2 D (.lst [])) s3 := by
    rw [← hs3]
    refine I2.laid (t' := s2.toks) (fun b o e => Heap.get?_push_of_some _ e) (Nat.le_of_eq hD) ⟨Nat.zero_le _, [], 0, .nil, ?_⟩
    rw [← hD]
    exact Heap.get?_push_size _ rfl
  have h3 : s3.heap = s2.heap.push { cls := .type "list", data := .seq ([] : List Value).toArray } := by rw [← hs3]
  have sz : ∀ b ∈ fp, b < s2.heap.objs.size := fun b hb => by
    obtain ⟨o, e, _⟩ := T.obj _ _ st2 b hb
    exact Heap.lt_size e
  have f3 : ∀ b ∈ fp, FpOk X pins (upd H2 D (.lst [])) b ∧ b < s3.heap.objs.size := fun b hb => by
    have hlt := sz b hb
    refine ⟨⟨?_, (f2 b hb).2⟩, by rw [h3, Heap.size_push]; exact Nat.lt_succ_of_lt hlt⟩
    rw [L2.upd_ne (by rw [← hD]; exact Nat.ne_of_lt hlt)]
    exact (f2 b hb).1
  have st3 : tn 0 s3.heap := T.keep _ _ _ st2 fun b _ o e => by rw [h3]; exact Heap.get?_push_of_some _ e
  have I4 := block_start I3 ok hN f3
  have pg := hg s3 (upd H2 D (.lst [])) s3.heap.objs.size (cellsFrom (s3.heap.objs.size + 1) scope.names (cloFrom X.env.cells scope.names [])) fp
  have pe := he s3 (upd H2 D (.lst [])) s3.heap.objs.size (cellsFrom (s3.heap.objs.size + 1) scope.names (cloFrom X.env.cells scope.names [])) fp
  show codeAny _ _ (.compStart (.ListComp elt [⟨tg, iter, [], 0⟩] scope pos) 0 (.ref it) (.ref D) (compEnvC scope (cellsFrom (s3.heap.objs.size + 1) scope.names (cloFrom X.env.cells scope.names [])) s3.heap.objs.size X.env)) (compEnds (model X.prog X.w) X.A X.xe use Qf (.ref D) (compEnvC scope (cellsFrom (s3.heap.objs.size + 1) scope.names (cloFrom X.env.cells scope.names [])) s3.heap.objs.size X.env)) { s3 with heap := pushCells (s3.heap.push { cls := .type "dict", data := .dict #[] }) scope.names }
  have nfp : ∀ b ∈ fp, (upd H2 D (.lst [])) b = none := fun b hb => (f3 b hb).1.1
  generalize hce : compEnvC scope (cellsFrom (s3.heap.objs.size + 1) scope.names (cloFrom X.env.cells scope.names [])) s3.heap.objs.size X.env = ce at I4 pg pe ⊢
  have cL : ce.locals = s3.heap.objs.size := by subst hce; rfl
  have cF : ce.frame = X.env.frame := by subst hce; rfl
  generalize hH3 : upd H2 D (.lst []) = H3 at I3 I4 pg pe w0 nfp f3
  generalize hs4 : ({ s3 with heap := pushCells (s3.heap.push { cls := .type "dict", data := .dict #[] }) scope.names } : Shared) = s4 at I4 ⊢
  have st4 : tn 0 s4.heap := T.keep _ _ _ st3 fun b _ o e => by rw [← hs4]; exact pushCells_keeps _ _ _ _ (Heap.get?_push_of_some _ e)
  generalize hxe : notedBy (model X.prog X.w) X.A ce (fun e s' => compEnds (model X.prog X.w) X.A X.xe use Qf (.ref D) ce (.error e) s') = xe
  have hpass : ∀ σ', PassesAt (L2.CX X.prog X.w) (blkE X s3 H3 scope ce fp xe) σ' fun cls d H' => W cls d σ H' := fun σ' pb Hb sb e sb' Ib c => by
    show xe e sb'
    rw [← hxe]
    have z := block_fails (E := fun cls d H' => W cls d σ H') hst hf tk I3 f3 cL cF Ib c fun _ _ _ w => w
    exact wpAny_mono z (fun _ _ q => by cases use <;> exact q) fun _ _ q => by cases use <;> exact q
  have pg := pg xe
  have pe := pe xe hpass
  have I4 : Inv (blkE X s3 H3 scope ce fp xe) [] (L2.wipe σ (own.map (·.2))) H3 s4 := invE I4
  have stat : ∀ {σ' : L2.St} {H' : Hp} {s' : Shared}, Inv (blkE X s3 H3 scope ce fp xe) [] σ' H' s' → (∀ b ∈ fp, H' b = none) → ∀ b ∈ fp, FpOk (blkE X s3 H3 scope ce fp xe) [] H' b := fun {σ' H' s'} I' hn b hb =>
    ⟨hn b hb, (I'.ok.exf b hb).1, I'.ok.exfs b hb, .inl hb, fun x c e => (I'.ok.exf b hb).2 x c e, fun p hp => absurd (show p ∈ ([] : List (Addr × Obj)) ++ [] from hp) (by simp)⟩
  have loop : codeAny (model X.prog X.w) X.A (.compLoop (.ListComp elt [⟨tg, iter, [], 0⟩] scope pos) 0 (.ref it) (.ref D) ce) (compEnds (model X.prog X.w) X.A X.xe use Qf (.ref D) ce) s4 := by
    refine compLoop_any (fun n s' => ∃ i H', Inv (blkE X s3 H3 scope ce fp xe) [] (L2.wipe σ (own.map (·.2))) H' s' ∧ tn i s'.heap ∧ (∀ b ∈ fp, H' b = none) ∧ Wi i n H') ?_ m0 ⟨0, H3, I4, st4, nfp, w0⟩
    rintro n s5 ⟨i, H5, I5, st5, n5, w5⟩
    rw [hxe]
    rcases turn i n H5 w5 with ⟨stop, qq⟩ | ⟨go, Nx, hNx, step⟩
    · have td := T.done (blkE X s3 H3 scope ce fp xe) rfl rfl rfl hc i [] s5 _ H5 (fun _ _ => False) I5 (stat I5 n5) st5 stop
      refine thnF td fun r s6 ⟨hr, I6⟩ => ?_
      subst hr
      -- back in the def's context
      have I7 : Inv X pins σ H5 s6 := I3.call' (ch := fp) I6.os I6.base I6.hok I6.bare fun b hb => ⟨(f3 b hb).1.2.2.2.1, (f3 b hb).1.2.1, (f3 b hb).1.2.2.2.2.1, (f3 b hb).1.2.2.2.2.2⟩
      have nC : H5 s3.heap.objs.size = none := by
        have z : H5 ce.locals = none := I6.free
        rw [cL] at z
        exact z
      obtain ⟨m, hn, _⟩ := I6.loc
      have hn : s6.heap.Ns ce.locals m := hn
      exact hRR D ce s6 m H5 I7 qq hn (by rw [cL]; exact I3.fpOk (Nat.le_refl _) nC)
    · have ti := T.item (blkE X s3 H3 scope ce fp xe) rfl rfl rfl hc i [] s5 _ H5 (fun _ _ => False) I5 (stat I5 n5) st5 go
      refine thnF ti fun r s6 ⟨u, hr, h6⟩ => ?_
      subst hr
      refine thnF h6 fun _ s7 ⟨x, H7, I7, r7, y7, st7, n7⟩ => ?_
      have I7' := I7.pinned (stat I7 n7) (T.obj _ _ st7)
      refine thn (pg.run _ s7 _ H7 x u _ I7' r7 (step x H7 y7)) fun _ s8 ⟨σ8, H8, I8, hw8, q8⟩ => ?_
      refine thn ((pts_nil (X := blkE X s3 H3 scope ce fp xe)).run _ s8 σ8 H8 _ I8 q8) fun b s9 ⟨H9, I9, q9⟩ => ?_
      -- the turn's end
      have fin : ∀ {s' : Shared} {H' : Hp}, Inv (blkE X s3 H3 scope ce fp xe) ([] ++ pinsAt fp s7.heap) σ8 H' s' → Nx H' → ∃ m, m < n ∧ ∃ i H', Inv (blkE X s3 H3 scope ce fp xe) [] (L2.wipe σ (own.map (·.2))) H' s' ∧ tn i s'.heap ∧ (∀ b ∈ fp, H' b = none) ∧ Wi i m H' := fun {s' H'} I' nx => by
        obtain ⟨m', hm, w'⟩ := hNx H' nx
        have pin' : ∀ b ∈ fp, ∀ o, s7.heap.get? b = some o → s'.heap.get? b = some o ∧ H' b = none := fun b hb o e =>
          let z := I'.pin (b, o) (List.mem_append_right _ (List.mem_append_right _ (mem_pinsAt hb e)))
          ⟨z.1, z.2.1⟩
        have hl : (L2.wipe σ (own.map (·.2))).length = σ8.length := by rw [← hw8, wipe_length]
        refine ⟨m', hm, i + 1, H', (I'.unpinned (pins := [])).weak hl (fun j v e => ?_), T.keep _ _ _ st7 fun b hb o e => (pin' b hb o e).1, fun b hb => ?_, w'⟩
        · rw [← hw8] at e
          exact (L2.wipe_some e).1
        · obtain ⟨o, e, _⟩ := T.obj _ _ st7 b hb
          exact (pin' b hb o e).2
      cases b with
      | false =>
        simp only [Bool.false_eq_true, if_false] at q9 ⊢
        exact fin I9 q9
      | true =>
        simp only [if_true] at q9 ⊢
        refine thn (pe.run _ s9 σ8 H9 _ I9 q9) fun z s10 ⟨yv, H10, I10, r10, acc, hD10, hz10, nx⟩ => ?_
        exact app_ok (X := blkE X s3 H3 scope ce fp xe) I10 hD10 hz10 r10 fun s11 I11 => fin I11 nx
  exact codeAny_compStart_list loop (T.self X.A 0 _ _ _ st4 loop)
/-- as a value -/
theorem pe_lcX {elt tg iter : Expr} {scope : Scope} {own : List (Str × Nat)} {pos : Pos} {wi : TI} {g : TG} {te : L2.St → TE} (hst : X.stack = X.env :: X.outer) (hf : X.env.frame = some X.env.locals) (tk : Takes X W) (hc : X.calm = true) (hN : X.N.Nodup) (hi : PI X tg iter wi) (ok : BlkOk X.N X.env.scope scope own)
    (hg : ∀ (s : Shared) (H : Hp) (C : Addr) (cl : List (Str × Addr)) (fp : List Addr) (xe : Value → Shared → Prop), PG (blkE X s H scope (compEnvC scope cl C X.env) fp xe) tg g)
    (he : ∀ (σ : L2.St) (s : Shared) (H : Hp) (C : Addr) (cl : List (Str × Addr)) (fp : List Addr) (xe : Value → Shared → Prop), (∀ σ', PassesAt (L2.CX X.prog X.w) (blkE X s H scope (compEnvC scope cl C X.env) fp xe) σ' fun cls d H' => W cls d σ H') → PE (blkE X s H scope (compEnvC scope cl C X.env) fp xe) elt (te σ))
    (hs : ∀ x, foldedSetIterable iter X.env x = pure x := by intro _; rfl) :
    PE X (.ListComp elt [⟨tg, iter, [], 0⟩] scope pos) (fun σ => tLc wi g tYes (te σ) (own.map (·.2)) σ) := by
  refine ⟨fun pins s σ H Q I h => ?_⟩
  rw [eval_ListComp]
  refine lc_coreX hst hf tk hc hN I hi ok hg (he σ) hs h fun D ce s' m H' I' q hn f => ⟨m, hn, fun h'' sb => ?_⟩
  obtain ⟨f0, f1, f2, f3, f4, f5⟩ := f
  exact ⟨.ref D, H', I'.turned (t' := s'.toks) (fun b o hb e => (sb.2 b hb).trans e) f0 f1 f3 f4 f5, rfl, q⟩
/-- name = [..] on one line, the name a local -/
theorem ps_setLcX {i : Nat} {y : Str} {py : Pos} {elt tg iter : Expr} {scope : Scope} {own : List (Str × Nat)} {pos spos : Pos} {wi : TI} {g : TG} {te : L2.St → TE} (hst : X.stack = X.env :: X.outer) (hf : X.env.frame = some X.env.locals) (tk : Takes X W) (hc : X.calm = true) (hN : X.N.Nodup) (hy : X.N[i]? = some y) (hyl : X.env.scope.names.lookup y = some .local)
    (hsw : swapsWith (.ListComp elt [⟨tg, iter, [], 0⟩] scope pos) (some (.Name y py)) spos.line X.env = pure true) (hi : PI X tg iter wi) (ok : BlkOk X.N X.env.scope scope own)
    (hg : ∀ (s : Shared) (H : Hp) (C : Addr) (cl : List (Str × Addr)) (fp : List Addr) (xe : Value → Shared → Prop), PG (blkE X s H scope (compEnvC scope cl C X.env) fp xe) tg g)
    (he : ∀ (σ : L2.St) (s : Shared) (H : Hp) (C : Addr) (cl : List (Str × Addr)) (fp : List Addr) (xe : Value → Shared → Prop), (∀ σ', PassesAt (L2.CX X.prog X.w) (blkE X s H scope (compEnvC scope cl C X.env) fp xe) σ' fun cls d H' => W cls d σ H') → PE (blkE X s H scope (compEnvC scope cl C X.env) fp xe) elt (te σ))
    (hs : ∀ x, foldedSetIterable iter X.env x = pure x := by intro _; rfl) :
    PS X (.Assign [.Name y py] (.ListComp elt [⟨tg, iter, [], 0⟩] scope pos) spos) (tAsg (fun σ => tLc wi g tYes (te σ) (own.map (·.2)) σ) (gName i)) := by
  refine ⟨fun pins s σ H D I h => ?_⟩
  rw [exec_Assign_Name_used _ _ _ _ hsw]
  refine wpAny_bind (wpAny_standAt (wpAny_bind ?_))
  show wpAny _ X.A (do let _ ← comprehension (.ListComp elt [⟨tg, iter, [], 0⟩] scope pos) scope X.env (firstIterPos [⟨tg, iter, [], 0⟩] pos) (newList []) false (eval iter X.env) (some (assign (.Name y py) X.env))) _ _ s
  have h : tLc wi g tYes (te σ) (own.map (·.2)) σ H (fun x H1 => gName i x σ H1 D.nx) := h
  refine wpAny_bind (thn (lc_coreX (Qf := fun _ s' => SP X pins D .next s') hst hf tk hc hN I hi ok hg (he σ) hs h fun L ce s' m H' I' q hn f => ?_) fun _ s' hq => wpAny_pure (wpAny_pure hq))
  show wpAny _ _ (assign (.Name y py) X.env (.ref L)) _ _ _
  refine wpAny_assign_Name (store_ok2 (v := V.ref L) I' hN hy (.inl hyl) rfl (fun s2 I2 ⟨a, sb, ha⟩ => ?_) (.inr hyl))
  obtain ⟨f0, f1, f2, f3, f4, f5⟩ := f
  have haC : ce.locals ≠ a := by
    rcases ha with z | z
    · rw [z]; exact f1
    · exact fun e => f4 y a z e.symm
  refine ⟨m, hn.sameBut sb haC, fun h3 sb3 => ?_⟩
  exact ⟨_, H', I2.turned (t' := s2.toks) (fun b o hb e => (sb3.2 b hb).trans e) f0 f1 f3 f4 f5, q⟩
end
/-! ### as rules -/
def lcXL (vs : List Nat) (tf : D → Env → Option Env) (f : Env → R D) (ρ : Env) : List D → R (List D)
  | [] => .ok []
  | d :: ds => match tf d (wipeD ρ vs) with
    | none => .st
    | some ρ1 => (f ρ1).bind fun y => (lcXL vs tf f ρ ds).bind fun r => .ok (y :: r)
def lcXE (vs : List Nat) (fi : Env → R (List D)) (tf : D → Env → Option Env) (f : Env → R D) (ρ : Env) : R D := (fi ρ).bind fun ds => if ds.length ≤ sizeLine then (lcXL vs tf f ρ ds).bind fun r => .ok (.lst r) else .st
abbrev Wat (W : WX) (σ : L2.St) : WX := fun cls d _ H => W cls d σ H
section
variable {X : Cx} {W : WX} {own slots vs : List Nat} {tg : Expr} {fi : Env → R (List D)} {tf : D → Env → Option Env} {f : Env → R D} {g : TG}
theorem tLcX_of {K : PySem.W.Frag} {mg : Str → Option Value} (hK : X.K = K) (hmg : X.mg = mg) (hg : TgOk X [] slots g tf) (hv : ∀ k ∈ slots, k ∈ vs) {σ : L2.St} {H : Hp} {Q : VK} (h : tG K mg W (lcXE vs fi tf f) σ H Q) :
    tLc (tI K mg W [] fi) g tYes (tG K mg (Wat W σ) f) vs σ H Q := by
  subst hK
  subst hmg
  obtain ⟨ρ, re, o⟩ := h
  refine ⟨ρ, H, fun _ => [], re.stx, (Out.bind o).mono fun ds _ q J H1 A s1 n1 it D hD => ?_⟩
  by_cases hz : ds.length ≤ sizeLine
  rotate_left
  · rw [if_neg hz] at q; exact q.elim
  rw [if_pos hz] at q
  have q := Out.bind q
  have it : IterOk X.K J (ext H H1 A) ds := it
  have re1 : REnv X.K ρ σ H1 := re.mono s1
  -- the invariant
  refine ⟨fun i m H2 => m = ds.length - i ∧ i ≤ ds.length ∧ ∃ acc ys B, Same H1 H2 ∧ H2 D = some (.lst acc) ∧ Fus X.K H2 acc ys B ∧ D ∉ B ∧ (∀ a ∈ B, H1 a = none) ∧ acc.length ≤ i ∧
      Out X.mg W σ H (lcXL vs tf f ρ (ds.drop i)) fun r => ∀ v H' A, Same H H' → Fu X.K H' v (.lst (ys ++ r)) A → (∀ a ∈ A, H a = none) → Q v H', ⟨ds.length, by simp, Nat.zero_le _, [], [], [], new_same hD, upd_same, .nil, (fun z => nomatch z), (fun _ z => nomatch z), Nat.le_refl _, ?_⟩, ?_⟩
  · rw [List.drop_zero]
    exact q
  · rintro i m H2 ⟨rfl, hi, acc, ys, B, s2, hL, fu, nD, nB, hacc, q⟩
    have sx : Same (ext H H1 A) H1 := ext_h s1 A
    have sE : Same (ext H H1 A) (ext (ext H H1 A) H2 []) := ext_s []
    have sF : Same (ext (ext H H1 A) H2 []) H2 := ext_h (sx.trans s2) []
    obtain ⟨go, stop⟩ := it _ H2 i sE sF
    by_cases hlt : i < ds.length
    · obtain ⟨g1, g2⟩ := go ds[i] (List.getElem?_eq_getElem hlt)
      refine .inr ⟨g1, fun H' => ∃ acc ys B, Same H1 H' ∧ H' D = some (.lst acc) ∧ Fus X.K H' acc ys B ∧ D ∉ B ∧ (∀ a ∈ B, H1 a = none) ∧ acc.length ≤ i + 1 ∧
        Out X.mg W σ H (lcXL vs tf f ρ (ds.drop (i + 1))) fun r => ∀ v H' A, Same H H' → Fu X.K H' v (.lst (ys ++ r)) A → (∀ a ∈ A, H a = none) → Q v H', fun H' y => ⟨ds.length - (i + 1), by omega, rfl, hlt, y⟩, fun x H3 y => ?_⟩
      obtain ⟨s3, r3⟩ := g2 x H3 y
      rw [List.drop_eq_getElem_cons hlt] at q
      unfold lcXL at q
      cases e : tf ds[i] (wipeD ρ vs) with
      | none => rw [e] at q; exact q.elim
      | some ρ1 =>
        rw [e] at q
        simp only at q
        have re3 := ((re1.mono s2).mono s3).wipe vs
        have rx : Rd X.K H3 x ds[i] := r3.mono (ext_h (sF.trans s3) [])
        refine hg H3 (fun _ => []) (wipeD ρ vs) (L2.wipe σ vs) H3 x _ ρ1 re3.stx rx e _ fun σ4 x4 k4 l4 => ⟨?_, ?_⟩
        · rw [wipe_eq (τ := L2.wipe σ vs) l4 fun k hk => k4 k fun z => hk (hv k z), wipe_wipe]
        · have re4 := x4.env
          show tG X.K X.mg (Wat W σ) f σ4 H3 _
          have q := Out.bind q
          have s03 : Same H H3 := s1.trans (s2.trans s3)
          refine ⟨ρ1, re4, ?_⟩
          cases ef : f ρ1 with
          | st => rw [ef] at q; exact q.elim
          | ex c =>
            rw [ef] at q
            obtain ⟨C, q1, q2⟩ := q
            exact ⟨C, q1, fun H' sH => q2 H' (s03.trans sH)⟩
          | ok y =>
            rw [ef] at q
            have q := Out.bind q
            intro v H6 C s6 f6 n6
            have sA : Same H2 H6 := s3.trans s6
            have hD6 : H6 D = some (.lst acc) := sA.mv hL
            have nDC : D ∉ C := fun z => by
              have := n6 D z
              rw [s3.mv hL] at this
              cases this
            have f1 : Fus X.K H6 (acc ++ [v]) (ys ++ [y]) (B ++ (C ++ [])) := (fu.same sA).app (.cons f6 .nil fun _ _ z => nomatch z) fun a ha hb => by
              rw [List.append_nil] at hb
              obtain ⟨o, ho, nt⟩ := fu.thereN a ha
              have := n6 a hb
              rw [s3.mv ho nt] at this
              cases this
            have nD' : D ∉ B ++ (C ++ []) := fun z => by
              rw [List.append_nil] at z
              exact (List.mem_append.mp z).elim nD nDC
            have nB' : ∀ a ∈ B ++ (C ++ []), H1 a = none := fun a ha => by
              rw [List.append_nil] at ha
              rcases List.mem_append.mp ha with z | z
              · exact nB a z
              · exact (s2.trans s3).free (n6 a z)
            refine ⟨acc, hD6, Nat.lt_of_le_of_lt hacc (Nat.lt_of_lt_of_le hlt hz), acc ++ [v], ys ++ [y], B ++ (C ++ []), ((s2.trans s3).trans s6).put hD (fun o e => by rw [hD6] at e; cases e; exact fun z => z), upd_same, f1.at (fun a ha => upd_ne fun z => nD' (z ▸ ha)) (fun b ot st _ hq => ?_), nD', nB', ?_, ?_⟩
            · rw [upd_ne (fun z => by rw [z, hD6] at hq; cases hq; exact st)]
              exact hq
            · rw [List.length_append, List.length_singleton]; omega
            · refine q.mono fun r _ q => ?_
              rw [List.append_assoc]
              exact q
    · have e : i = ds.length := by omega
      subst e
      rw [List.drop_length] at q
      have q : ∀ v H' A, Same H H' → Fu X.K H' v (.lst (ys ++ [])) A → (∀ a ∈ A, H a = none) → Q v H' := q
      refine .inl ⟨stop (Nat.le_refl _), q _ H2 (D :: B) (s1.trans s2) (by rw [List.append_nil]; exact .lst hL fu nD) fun a ha => ?_⟩
      rcases List.mem_cons.mp ha with z | z
      · rw [z]; exact s1.free hD
      · exact s1.free (nB a z)
end
section
variable {X : Cx} {W : WX} {own0 : List Nat} {ol : Ol} {elt tg iter : Expr} {scope : Scope} {own : List (Str × Nat)} {slots : List Nat} {pos spos : Pos} {fi : Env → R (List D)} {tf : D → Env → Option Env} {f : Env → R D} {g : TG}
/-- what a call of the block is to be handed -/
abbrev PassB (X : Cx) (W : WX) : Prop := ∀ σ', PassesAt (L2.CX X.prog X.w) X σ' (WE W σ')
theorem vg_lcX (hst : X.stack = X.env :: X.outer) (hf : X.env.frame = some X.env.locals) (tkx : Takes X W) (hc : X.calm = true) (hN : X.N.Nodup) (hi : VI X W [] tg iter fi) (ok : BlkOk X.N X.env.scope scope own) (tk : TgOk X [] slots g tf)
    (hg : ∀ (s : Shared) (H : Hp) (C : Addr) (cl : List (Str × Addr)) (fp : List Addr) (xe : Value → Shared → Prop), PG (blkE X s H scope (compEnvC scope cl C X.env) fp xe) tg g)
    (he : ∀ (W' : WX) (s : Shared) (H : Hp) (C : Addr) (cl : List (Str × Addr)) (fp : List Addr) (xe : Value → Shared → Prop), PassB (blkE X s H scope (compEnvC scope cl C X.env) fp xe) W' → VG (blkE X s H scope (compEnvC scope cl C X.env) fp xe) W' elt f)
    (hv : ∀ k ∈ slots, k ∈ own.map (·.2) := by decide) (hs : ∀ x, foldedSetIterable iter X.env x = pure x := by intro _; rfl) : VG X W (.ListComp elt [⟨tg, iter, [], 0⟩] scope pos) (lcXE (own.map (·.2)) fi tf f) :=
  ⟨peW (pe_lcX (te := fun σ => tG X.K X.mg (Wat W σ) f) hst hf tkx hc hN hi.pi ok hg (fun σ s H C cl fp xe p => (he (Wat W σ) s H C cl fp xe p).pe) hs) fun σ H Q q => tLcX_of rfl rfl tk hv q⟩
theorem vs_setLcX (i : Nat) {y : Str} {py : Pos} (hst : X.stack = X.env :: X.outer) (hf : X.env.frame = some X.env.locals) (tkx : Takes X W) (hc : X.calm = true) (hN : X.N.Nodup) (hy : X.N[i]? = some y) (hyl : X.env.scope.names.lookup y = some .local) (hsw : swapsWith (.ListComp elt [⟨tg, iter, [], 0⟩] scope pos) (some (.Name y py)) spos.line X.env = pure true)
    (hi : VI X W [] tg iter fi) (ok : BlkOk X.N X.env.scope scope own) (tk : TgOk X [] slots g tf)
    (hg : ∀ (s : Shared) (H : Hp) (C : Addr) (cl : List (Str × Addr)) (fp : List Addr) (xe : Value → Shared → Prop), PG (blkE X s H scope (compEnvC scope cl C X.env) fp xe) tg g)
    (he : ∀ (W' : WX) (s : Shared) (H : Hp) (C : Addr) (cl : List (Str × Addr)) (fp : List Addr) (xe : Value → Shared → Prop), PassB (blkE X s H scope (compEnvC scope cl C X.env) fp xe) W' → VG (blkE X s H scope (compEnvC scope cl C X.env) fp xe) W' elt f)
    (hv : ∀ k ∈ slots, k ∈ own.map (·.2) := by decide) (hs : ∀ x, foldedSetIterable iter X.env x = pure x := by intro _; rfl) (we : ∀ i ∈ ol.e, i ∈ own0 := by first | decide | (dsimp only; decide)) (hp : ol.P i = none := by rfl) : VS X W own0 (i :: own0) ol (.Assign [.Name y py] (.ListComp elt [⟨tg, iter, [], 0⟩] scope pos) spos) (asgS i (lcXE (own.map (·.2)) fi tf f)) :=
  ⟨psW (ps_setLcX (i := i) (te := fun σ => tG X.K X.mg (Wat W σ) f) hst hf tkx hc hN hy hyl hsw hi.pi ok hg (fun σ s H C cl fp xe p => (he (Wat W σ) s H C cl fp xe p).pe) hs) fun D σ H ⟨B, ρ, x, pn, q⟩ => tLcX_of (Q := fun v H1 => gName i v σ H1 D.nx) rfl rfl tk hv ⟨ρ, x.env, (SEnd.out x pn we q).mono fun d _ q v H' A s fu n => by
    obtain ⟨S, F, b, y⟩ := x
    exact q _ _ ⟨_, _, b.trans (ext_s []), y.put s fu n i⟩ (pn.set hp)⟩⟩
end
theorem vg_callP {X : Cx} {W : WX} {x : Str} {k n : Nat} {f : Addr} {fd : FuncData} {ps : List Str} {m : List D → R D} {p pos : Pos} {e : Expr} {es : List Expr} {fs : Env → R (List D)} (F : FnOk X.prog X.w X.K X.mg X.base (L2.CX X.prog X.w) k f fd ps (spF X.K X.mg n m)) (hr : Room k X.A) (pb : PassB X W) (hg : Gl X x) (hm : X.mg x = some (.ref f)) (hk : PySem.W.keepIn X.K (.ref f) = true) (hb : Binds X.K fd ps [])
    (ha : VA X W (e :: es) fs) (hl : LenA fs n) (hdb : (x == ("__debug__" : Str)) = false := by decide) (he : starEach (e :: es) X.env = (false, eval e X.env) :: starEach es X.env := by rfl) (hpl : (backTo pos (starEach es X.env)).any (·.1) = false := by rfl) :
    VG X W (.Call (.Name x p) (e :: es) [] pos) (callF m fs) := ⟨peW (pe_callS F hr hg hm hk hb pb ha.pa hdb he hpl) fun σ H Q ⟨ρ, re, o⟩ => ⟨ρ, re, (Out.bind o).mono fun ds hd q vs H1 s1 r1 => by
  refine ⟨r1.length.trans (hl ρ ds hd), re.tabs.up s1, ds, r1, ?_⟩
  cases hz : m ds with
  | ok d => rw [hz] at q; exact fun v H' A s2 f2 n2 => q v H' A (s1.trans s2) f2 fun a z => s1.free (n2 a z)
  | ex c => rw [hz] at q; obtain ⟨C, h1, h2⟩ := q; exact ⟨C, h1, fun H' s2 => h2 H' (s1.trans s2)⟩
  | st => rw [hz] at q; exact q.elim⟩⟩
theorem vg_fnP {X : Cx} {W : WX} {x : Str} {ps : List Str} {k k' : Nat} {m : List D → R D} {p pos : Pos} {e : Expr} {es : List Expr} {fs : Env → R (List D)} (C : Cal X.prog X.w X.K X.mg X.base x ps k m) (hr : Room k' X.A) (pb : PassB X W) (hg : Gl X x)
    (ha : VA X W (e :: es) fs) (hl : LenA fs ps.length) (hk : k ≤ k' := by decide) (hdb : (x == ("__debug__" : Str)) = false := by decide) (he : starEach (e :: es) X.env = (false, eval e X.env) :: starEach es X.env := by rfl) (hpl : (backTo pos (starEach es X.env)).any (·.1) = false := by rfl) :
    VG X W (.Call (.Name x p) (e :: es) [] pos) (callF m fs) := by
  obtain ⟨f, fd, h1, h2, h3, h4⟩ := C
  exact vg_callP h4 (hr.mono hk) pb hg h1 h2 h3 ha hl hdb he hpl
end Vs

namespace Vs
open PySem PySem.Spec PyProof.Rows L2

/-! ### a new list is emptied -/
def clearGS (f : Env → R D) (ρ : Env) : Sr := bindS (f ρ) ρ fun d => match d with
  | .lst _ => .nx ρ
  | _ => .st
section
variable {X : Cx} {W : WX} {own : List Nat} {ol : Ol} {st : Stmt} {f : Env → R D}
theorem vs_clearG (p : PS X st (tDrop (tBM0 X.K "list" rClear (tG X.K X.mg W f)))) (we : ∀ i ∈ ol.e, i ∈ own := by first | decide | (dsimp only; decide)) : VS X W own own ol st (clearGS f) := ⟨psW p fun D σ H ⟨B, ρ, x, pn, q⟩ => ⟨ρ, x.env, (SEnd.out x pn we q).mono fun d _ q v H1 A s1 f1 n1 => by
  split at q
  · rename_i ds
    obtain ⟨pa, vs, A', rfl, eF, hp, r, n⟩ := f1.list
    refine ⟨.inl ⟨rfl, _, .inl (.inl hp)⟩, pa, vs, rfl, rfl, hp, ?_⟩
    exact q _ _ (x.grow (s1.put (n1 pa (by rw [eF]; exact List.mem_cons_self)) fun o e => by rw [hp] at e; cases e; exact fun z => z)) pn
  · exact q.elim⟩⟩
end
end Vs
namespace Vs
open PySem PySem.Spec PyProof.Rows L2
/-! ### comparisons and `and`, `or` of what changes slots -/
def cmpXv (g : D → D → R D) (f : Env → RX D) (h : Env → R D) (ρ : Env) : RX D := (f ρ).bind fun d ρ' => liftR ((h ρ').bind (g d)) ρ'
def andXV (f g : Env → RX D) (ρ : Env) : RX D := (f ρ).bind fun d ρ' => match d with
  | .bl true => g ρ'
  | .bl false => .ok (.bl false) ρ'
  | _ => .st
def orXV (f g : Env → RX D) (ρ : Env) : RX D := (f ρ).bind fun d ρ' => match d with
  | .bl true => .ok (.bl true) ρ'
  | .bl false => g ρ'
  | _ => .st
section
variable {X : Cx} {W : WX} {own : List Nat} {a b : Expr} {f g : Env → RX D} {h : Env → R D} {pos : Pos}
theorem tCmpX_of {r : R2} {g : D → D → R D} (k : OpD X r g) (n : NoEx2 g) {σ : L2.St} {H : Hp} {Q : VK} (hh : tX X.K X.mg W own (cmpXv g f h) σ H Q) : tOp r (tX X.K X.mg W own f) (tF X.K X.mg W h) σ H Q := by
  obtain ⟨B, ρ, st, o⟩ := hh
  refine ⟨B, ρ, st, (OutX.bind o).mono fun d ρ' _ q v H1 z => ?_⟩
  have zs : Sta own B X.K ρ' σ H1 := z.sta
  obtain ⟨S, F, A, b, y, fu, n1, n2⟩ := z
  have q := Out.bind (OutX.lift zs q)
  refine ⟨ρ', zs.env, q.mono fun e _ q w H2 s2 r2 => ?_⟩
  cases hz : g d e with
  | ok u =>
    rw [hz] at q
    exact k v w d e H2 _ u (fu.rd.mono s2) r2 hz fun u' H3 A3 s3 f3 n3 => q u' H3 ((zs.grow s2).staV s3 f3 n3)
  | ex c => exact absurd hz (n d e c)
  | st => rw [hz] at q; exact q.elim
theorem vx_cmp {op : CmpOp} {r : R2} {g : D → D → R D} (ho : OpR X (compareOp op) r) (k : OpD X r g) (n : NoEx2 g) (ha : VX X W own a f) (hb : VE X W b h) (hm : behindInMarks op b = false) : VX X W own (.Compare a [op] [b] pos) (cmpXv g f h) :=
  ⟨peW (pe_cmpR ho ha.pe hb.pe hm) fun σ H Q q => tCmpX_of k n q⟩
theorem vxt_cmp {op : CmpOp} {r : R2} {g : D → D → R D} (ho : OpR X (compareOp op) r) (k : OpD X r g) (n : NoEx2 g) (ha : VX X W own a f) (hb : VE X W b h) (hm : behindInMarks op b = false) : VXT X W own (.Compare a [op] [b] pos) (boolX (cmpXv g f h)) :=
  ⟨ptW (pt_cmpR ho ha.pe hb.pe hm) fun σ H Q ⟨B, ρ, x, o⟩ => tCmpX_of k n (Q := fun x H' => ∃ k, x = .bl k ∧ Q k H') ⟨B, ρ, x, (OutX.bind o).mono fun d ρ' _ q v H' z => by
    have zs := z.sta
    obtain ⟨S, F, A, b, y, f, n1, n2⟩ := z
    cases f with
    | bl k => exact ⟨k, rfl, q H' zs⟩
    | _ => exact q.elim⟩⟩
theorem vx_one {op} (ha : VX X W own a f) : VX X W own (.BoolOp op [a] pos) f := ⟨pe_one ha.pe⟩
theorem vx_and {rest : List Expr} (ha : VX X W own a f) (hb : VX X W own (.BoolOp .And (b :: rest) pos) g) : VX X W own (.BoolOp .And (a :: b :: rest) pos) (andXV f g) :=
  ⟨peW (pe_and ha.pe hb.pe) fun σ H Q ⟨B, ρ, st, o⟩ => ⟨B, ρ, st, (OutX.bind o).mono fun d ρ' _ q v H1 z => by
    have zs : Sta own B X.K ρ' σ H1 := z.sta
    obtain ⟨S, F, A, b, y, fu, n1, n2⟩ := z
    cases fu with
    | bl k =>
      refine ⟨k, rfl, ?_⟩
      cases k with
      | true => rw [if_pos rfl]; exact ⟨B, ρ', zs, q⟩
      | false => rw [if_neg Bool.false_ne_true]; exact q _ H1 (zs.staV (Same.refl _) (.bl _) (fun _ h => nomatch h))
    | _ => exact q.elim⟩⟩
theorem vx_or {rest : List Expr} (ha : VX X W own a f) (hb : VX X W own (.BoolOp .Or (b :: rest) pos) g) : VX X W own (.BoolOp .Or (a :: b :: rest) pos) (orXV f g) :=
  ⟨peW (pe_or ha.pe hb.pe) fun σ H Q ⟨B, ρ, st, o⟩ => ⟨B, ρ, st, (OutX.bind o).mono fun d ρ' _ q v H1 z => by
    have zs : Sta own B X.K ρ' σ H1 := z.sta
    obtain ⟨S, F, A, b, y, fu, n1, n2⟩ := z
    cases fu with
    | bl k =>
      refine ⟨k, rfl, ?_⟩
      cases k with
      | false => rw [if_neg Bool.false_ne_true]; exact ⟨B, ρ', zs, q⟩
      | true => rw [if_pos rfl]; exact q _ H1 (zs.staV (Same.refl _) (.bl _) (fun _ h => nomatch h))
    | _ => exact q.elim⟩⟩
end
end Vs

namespace PySem
section
variable {prog : Program} {w : World} {K : Type} [DecidableEq K] {knd : HeapKind prog w K} {A : Around} {E : Value → Shared → Prop} {s : Shared}
/-- dict(d): keys that are tuples -/
theorem vs_call_dictH {o : Addr} {more : List (K × Addr × Value)} {Q : Value → Shared → Prop} (hu : knd.room A.in1.in1) (hoS : (o == sysModules) = false) (ho : s.heap.DictOfH knd o more) (hty : ∀ x ∈ more, s.TypeIs (.ref x.2.1) "tuple") (hap : (more.map fun x => knd.hash x.1).Nodup) (hsz : more.length ≤ sizeLine)
    (hst : ∀ h', (∀ b q, s.heap.get? b = some q → h'.get? b = some q) → ∀ x ∈ more, knd.is h' x.1 x.2.1)
    (h : ∀ h', h'.DictOfH knd s.heap.objs.size more → Heap.SameBut s.heap.objs.size (s.heap.push { cls := .type "dict", data := .dict #[] }) h' → Q (.ref s.heap.objs.size) { s with heap := h' }) :
    wpAny (model prog w) A (call (.type "dict") [.ref o]) Q E s := by
  refine callType_codes (Q₁ := fun obj s₁ => obj = .ref s.heap.objs.size ∧ s₁ = { s with heap := s.heap.push { cls := .type "dict", data := .dict #[] } }) F.kt_called_dict (F.kt_typeCall_dict_1 _) F.entry_dict_init (kt_code_dict_new _ ⟨rfl, rfl⟩) ?_
  rintro obj s₁ ⟨rfl, rfl⟩
  have hnew : (s.heap.push { cls := .type "dict", data := .dict #[] }).DictOfH knd s.heap.objs.size [] := Heap.DictOfH.new s.heap
  have ho' : (s.heap.push { cls := .type "dict", data := .dict #[] }).DictOfH knd o more := ho.at' (fun q e => Heap.get?_push_of_some _ e) (hst _ fun b q e => Heap.get?_push_of_some _ e)
  have hn : (more.map (·.1)).Nodup := ho.nodup
  have hdo : s.heap.objs.size ≠ o := by
    obtain ⟨_, _, _, hg, _⟩ := ho
    exact fun e => absurd (Heap.lt_size hg) (by rw [e]; exact Nat.lt_irrefl _)
  refine ⟨hnew.typeIs, F.args_dict_init_2 _ _, ?_⟩
  unfold Builtin.«dict.__init__»
  refine wpAny_bind ?_
  unfold Builtin.Dict.selfAndRest
  refine wpAny_bind (wpAny_notOrdered_dict hnew.typeIs ?_)
  show wpAny _ _ (pure (s.heap.objs.size, [Value.ref o])) _ _ _
  refine wpAny_pure ?_
  show wpAny _ _ (Builtin.Dict.updateFrom "dict.__init__" s.heap.objs.size (.ref o) [] .none) _ _ _
  unfold Builtin.Dict.updateFrom
  refine wpAny_bind (wpAny_typeOf ho'.typeIs ?_)
  rw [if_neg (by decide)]
  refine wpAny_bind ?_
  unfold Builtin.Dict.merge
  refine wpAny_bind ?_
  unfold Builtin.Dict.readDirectly
  refine wpAny_bind (wpAny_isInstance ho'.typeIs isSubtype_dict_dict ?_)
  simp only [Bool.not_true, Bool.false_eq_true, if_false]
  refine wpAny_bind (wpAny_specialOf ho'.typeIs F.slot_dict_iter.lookup (wpAny_pure ?_))
  simp only [beq_self_eq_true, if_true]
  refine wpAny_bind (wpAny_pure ?_)
  refine wpAny_mergeDict_heap (hsz := by simpa using hsz) hu hdo hoS hnew ho' (.inr ⟨fun x hx => ?_, hap⟩) fun h' hd' _ hs' => ?_
  · obtain ⟨q, e, c⟩ := hty x hx
    exact ⟨q, Heap.get?_push_of_some _ e, c⟩
  · show wpAny _ _ (Builtin.Dict.addKeywords s.heap.objs.size [] >>= _) _ _ _
    rw [storedAllH_nil_of_nodup more hn] at hd'
    exact wpAny_bind (wpAny_pure (wpAny_pure ⟨rfl, h h' hd' hs'⟩))
end
end PySem
namespace Vs
open PySem PySem.Spec PyProof.Rows L2
/-! ### dict(d): keys that are pairs of small numbers hash apart -/
def hp2 (p : Nat × Nat) : Int := reduceHash (Builtin.Tuple.tupleHashOf [hashInt p.1, hashInt p.2])
def smallP (i j : Nat) : Bool := decide (i < 64) && decide (j < 64) && (decide (i < 12) && decide (j < 12) || i == 0 || j == 0)
def gpairs : List (Nat × Nat) := (List.range 64).flatMap fun i => ((List.range 64).filter fun j => smallP i j).map fun j => (i, j)
theorem gpairs_mem {i j : Nat} (h : smallP i j = true) : (i, j) ∈ gpairs := by
  have h' := h
  unfold smallP at h'
  simp only [Bool.and_eq_true, decide_eq_true_eq] at h'
  exact List.mem_flatMap.mpr ⟨i, List.mem_range.mpr h'.1.1, List.mem_map.mpr ⟨j, List.mem_filter.mpr ⟨List.mem_range.mpr h'.1.2, h⟩, rfl⟩⟩
def apart : List Int → Bool
  | [] => true
  | x :: xs => xs.all (fun y => x != y) && apart xs
theorem apart_gpairs : apart (gpairs.map hp2) = true := by decide +kernel
theorem apart_inj {α : Type} {f : α → Int} : ∀ {l : List α}, apart (l.map f) = true → ∀ p ∈ l, ∀ q ∈ l, f p = f q → p = q
  | [], _, p, hp, _, _, _ => nomatch hp
  | x :: l, h, p, hp, q, hq, e => by
    rw [List.map_cons, apart, Bool.and_eq_true] at h
    have hx : ∀ y ∈ l, f x ≠ f y := fun y hy => by
      have := List.all_eq_true.mp h.1 (f y) (List.mem_map.mpr ⟨y, hy, rfl⟩)
      simpa using this
    rcases List.mem_cons.mp hp with e1 | hp
    · rcases List.mem_cons.mp hq with e2 | hq
      · rw [e1, e2]
      · rw [e1] at e
        exact absurd e (hx q hq)
    · rcases List.mem_cons.mp hq with e2 | hq
      · rw [e2] at e
        exact absurd e.symm (hx p hp)
      · exact apart_inj h.2 p hp q hq e
theorem hp2_inj {i j a b : Nat} (h : smallP i j = true) (k : smallP a b = true) (e : hp2 (i, j) = hp2 (a, b)) : (i, j) = (a, b) := apart_inj apart_gpairs _ (gpairs_mem h) _ (gpairs_mem k) e
/-- a pair of small numbers -/
def goodK : D → Bool
  | .tup [.int i, .int j] => decide (0 ≤ i) && decide (0 ≤ j) && smallP i.toNat j.toNat
  | _ => false
theorem goodK_key {l : List Key} (h : goodK (.tup (l.map keyD)) = true) : ∃ i j : Nat, l = [.inl (i : Int), .inl (j : Int)] ∧ smallP i j = true := by
  match l, h with
  | [.inl i, .inl j], h =>
    simp only [List.map_cons, List.map_nil, keyD, goodK, Bool.and_eq_true, decide_eq_true_eq] at h
    exact ⟨i.toNat, j.toNat, by rw [Int.toNat_of_nonneg h.1.1, Int.toNat_of_nonneg h.1.2], h.2⟩
  | [.inr _, _], h => exact absurd h (by simp [keyD, goodK])
  | [.inl _, .inr _], h => exact absurd h (by simp [keyD, goodK])
  | [], h => exact absurd h (by simp [goodK])
  | [.inl _], h => exact absurd h (by simp [keyD, goodK])
  | [_] , h => rename_i x; cases x <;> exact absurd h (by simp [keyD, goodK])
  | _ :: _ :: _ :: _, h => exact absurd h (by simp [goodK])
theorem nodup_hash {P : Program} {w : World} : ∀ {l : List (List Key)}, l.Nodup → (∀ k ∈ l, goodK (.tup (k.map keyD)) = true) → (l.map fun k => (tupleKind (mixKind P w)).hash k).Nodup
  | [], _, _ => List.nodup_nil
  | k :: l, n, g => by
    rw [List.nodup_cons] at n
    rw [List.map_cons, List.nodup_cons]
    refine ⟨fun m => ?_, nodup_hash n.2 fun q hq => g q (List.mem_cons_of_mem _ hq)⟩
    obtain ⟨q, hq, e⟩ := List.mem_map.mp m
    obtain ⟨i, j, e1, s1⟩ := goodK_key (g k List.mem_cons_self)
    obtain ⟨a, b, e2, s2⟩ := goodK_key (g q (List.mem_cons_of_mem _ hq))
    subst e1 e2
    have := hp2_inj s1 s2 e.symm
    injection this with x y
    subst x y
    exact n.1 hq
def dcopyD : List D → R D
  | [.dic t ks vs] => if immDs vs = true ∧ (t = true → ks.all goodK = true) then .ok (.dic t ks vs) else .st
  | _ => .st
theorem nx_dcopy : NoEx1 dcopyD := fun ds c h => by unfold dcopyD at h; split at h <;> first | cases h | (split at h <;> cases h)
def rDictC (X : Cx) : List V → Hp → VK → Prop := fun xs H Q => (∃ (a : Addr) (kvs : List (Key × V)), xs = [.ref a] ∧ L2.Rd H a (.dK kvs) ∧ ∀ p, H p = none → Q (.ref p) (upd H p (.dK kvs))) ∨
  (∃ (a : Addr) (kvs : List (List Key × V)), xs = [.ref a] ∧ H a = some (.dT kvs) ∧ (∀ k ∈ kvs.map (·.1), goodK (.tup (k.map keyD)) = true) ∧ ∀ p, H p = none → Q (.ref p) (upd H p (.dT kvs)))
theorem KT_keys {H : Hp} {kvs : List (List Key × V)} {xs : List (List Key × Addr × Value)} (r : KT H kvs xs) : xs.map (·.1) = kvs.map (·.1) := by
  induction r with
  | nil => rfl
  | cons h _ ih => rw [List.map_cons, List.map_cons, ih, h.1]
theorem KT_mem {H : Hp} {kvs : List (List Key × V)} {xs : List (List Key × Addr × Value)} (r : KT H kvs xs) : ∀ x ∈ xs, ∃ k : List Key, x.1 = k ∧ H x.2.1 = some (.tup (k.map kV)) := by
  induction r with
  | nil => exact fun x h => nomatch h
  | @cons p q ps qs h _ ih =>
    intro x hx
    rcases List.mem_cons.mp hx with e | hx
    · subst e
      exact ⟨_, rfl, by rw [← h.1]; exact h.2.1⟩
    · exact ih x hx
theorem call_dictC {X : Cx} (hu : X.A.units + 64 < cLine) : CallR X (.type "dict") (rDictC X) := by
  intro pins s σ H xs us Q I r q
  rcases q with q | ⟨a, kvs, ex, hd, hg, q⟩
  · exact call_dictD pins s σ H xs us Q I r q
  subst ex
  obtain ⟨u, eu, rx⟩ := vals1 r
  subst eu
  cases rx
  obtain ⟨z, lo, xs, rel, dd⟩ := dt_of I.hok hd
  have hk : ∀ h' : Heap, (∀ b q, s.heap.get? b = some q → h'.get? b = some q) → ∀ x ∈ xs, (tupleKind (mixKind X.prog X.w)).is h' x.1 x.2.1 := fun h' keep x hx => by
    obtain ⟨k, e, hb⟩ := KT_mem rel x hx
    rw [e]
    obtain ⟨o, its, n, h1, h2, h3, h4⟩ := key_of I.hok hb
    exact ⟨o, its, n, keep _ _ h1, h2, h3, h4⟩
  have hap : (xs.map fun x => (tupleKind (mixKind X.prog X.w)).hash x.1).Nodup := by
    have := nodup_hash (P := X.prog) (w := X.w) dd.nodup (fun k hk => hg k (by rw [KT_keys rel] at hk; exact hk))
    rw [List.map_map] at this
    exact this
  refine vs_call_dictH (knd := tupleKind (mixKind X.prog X.w)) (show X.A.units + 1 + 1 < cLine by omega) lo dd (fun x hx => ?_) hap (by rw [← Paired.length rel]; exact z) hk fun h' d' hs => ?_
  · obtain ⟨o, its, n, h1, h2, h3, h4⟩ := hk s.heap (fun _ _ e => e) x hx
    exact ⟨o, h1, h2⟩
  have hm : (s.heap.objs.size == sysModules) = false := beq_eq_false_iff_ne.mpr (Nat.ne_of_gt I.big)
  obtain ⟨q', es, ep, hq, h2, h3, h4, _, h5⟩ := d'
  refine ⟨.ref s.heap.objs.size, upd H s.heap.objs.size (.dT kvs), I.laid (t' := s.toks) (fun b u e => (hs.2 b (Nat.ne_of_lt (Heap.lt_size e))).trans (Heap.get?_push_of_some _ e)) (Nat.le_refl _)
    (show ObjOk X.prog X.w _ _ _ (.dT kvs) from ⟨z, hm, xs, rel.keeps fun b ys e => ?_, q', es, ep, hq, h2, h3, h4, h5⟩), rfl, q _ (I.hok.fresh (Nat.le_refl _))⟩
  rw [upd_ne (fun e' => by rw [e', I.hok.fresh (Nat.le_refl _)] at e; cases e)]
  exact e
theorem cb_dict {X : Cx} : CbD X (rDictC X) dcopyD := fun vs ds H Q z r h q => by
  unfold dcopyD at h
  split at h
  · rename_i t ks ws
    by_cases c : immDs ws = true ∧ (t = true → ks.all goodK = true)
    rotate_left
    · rw [if_neg c] at h; cases h
    rw [if_pos c] at h
    cases h
    obtain ⟨v, rfl, h1⟩ := rds1 r
    cases h1 with
    | @dk a kvs _ _ h1 e r1 =>
      refine .inl ⟨a, kvs, rfl, .inl h1, fun p hp => q _ _ [p] (new_same hp) (.dk upd_same e ((r1.fu c.1).same (new_same hp)) fun z => nomatch z) fun a ha => by rw [List.mem_singleton.mp ha]; exact hp⟩
    | @dt a kvs _ _ h1 e r1 =>
      refine .inr ⟨a, kvs, rfl, h1, fun k hk => ?_, fun p hp => q _ _ [p] (new_same hp) (.dt upd_same e ((r1.fu c.1).same (new_same hp)) fun z => nomatch z) fun a ha => by rw [List.mem_singleton.mp ha]; exact hp⟩
      have := List.all_eq_true.mp (c.2 rfl) (.tup (k.map keyD)) (by
        rw [e]
        obtain ⟨p, hp, e2⟩ := List.mem_map.mp hk
        exact List.mem_map.mpr ⟨p, hp, by rw [e2]⟩)
      exact this
  · cases h
end Vs

namespace Vs
open PySem PySem.Spec PyProof.Rows L2
/-! ### defs that are handed the caught error -/
/-- what a def promises while p's object stands by -/
structure FnP (P : Program) (w : World) (K : PySem.W.Frag) (mg : Str → Option Value) (base : Heap) (CX : CXT) (k : Nat) (f : Addr) (fd : FuncData) (ps : List Str) (sp : Sp) (p : Addr × Obj) : Prop where
  len : ∀ vs H Q E, sp vs H Q E → vs.length = ps.length
  run : ∀ (A : Around) (outer : List PySem.Env) (s : Shared) (H : Hp) (args : Args) (us : List Value) (vs : List V) (Q : VK) (E : XK), L2H.RoomH k A → L2H.PinOk outer H s p → Env0 P w K mg base A outer s H → BindsTo s fd args (ps.zip us) → Vals vs us → sp vs H Q E →
    codeAny (model P w) A (.call (.ref f) args) (CR CX outer P w H s Q E) s
theorem fn_ofP {CX : CXT} {P : Program} {w : World} {K : PySem.W.Frag} {mg : Str → Option Value} {base : Heap} {k : Nat} {f : Addr} {name qual : Str} {params : Arguments} {body : List Stmt} {scope : Scope} {dV kV doc pm cdv ct oc : Value} {an od : Option Addr}
    {osl : Array (Option Value)} {N ps : List Str} {sp : Sp} {p : Addr × Obj} (lk : K.lookup f = some ⟨oc, od, .func (PySem.W.fnOf name qual params body scope dV kV doc pm an cdv ct), osl⟩) (hcd : PySem.W.codeIn K cdv qual = true) (S : FnScope N ps scope)
    (len : ∀ vs H Q E, sp vs H Q E → vs.length = ps.length)
    (hbody : ∀ (A : Around) (outer : List PySem.Env) (s : Shared) (H : Hp) (vs : List V) (Q : VK) (E : XK), L2H.RoomH k (A.deeper (envOfC qual scope s.heap.objs.size f cdv)) → sp vs H Q E →
      ∃ t, PSs (L2H.cxH CX P w K mg base N qual scope f cdv A outer s H E p) body t ∧ t { nx := fun _ H' => Q .non H', rt := Q } (L2.start N vs) H) :
    FnP P w K mg base CX (k + 1) f (PySem.W.fnOf name qual params body scope dV kV doc pm an cdv ct) ps sp p := by
  refine ⟨len, fun A outer s H args us vs Q E hr hpin e0 hb r hsp => ?_⟩
  have hl := len _ _ _ _ hsp
  have KX : K.In s.heap := e0.mod.kin.keeps fun b o e => (e0.bs b o e).1
  have lim : s.heap.NoLimit := e0.mod.nolimit.keeps fun b o e => (e0.bs b o e).1
  have hkind : ∀ y ∈ ps.zip us, scope.names.lookup y.1 = some .local ∨ (scope.names.lookup y.1 = some .cell ∧ ((cellsFrom (s.heap.objs.size + 1) scope.names []).lookup y.1).isSome = true) := fun ⟨n, v⟩ hy => by
    rcases S.par n (List.of_mem_zip hy).1 with q | q
    · exact .inl q
    · exact .inr ⟨q, PySem.W.cellsFrom_some _ _ _ (.inl q)⟩
  refine codeAny_call_function hr.depth (KX _ _ lk) rfl S.co S.gen rfl (PySem.W.codeRec_of KX hcd) (hb _ _ _ _ ?_)
  refine wpAny_newFunctionEnv_cells S.kind hkind fun env he s1 x => ?_
  subst he
  refine ⟨lim.keeps x.toInCall.keep, codeAny_func ?_⟩
  obtain ⟨t, ht, hq⟩ := hbody A outer s H vs Q E (hr.deeper _) hsp
  have I : Inv (L2H.cxH CX P w K mg base N qual scope f cdv A outer s H E p) [] (L2.start N vs) H s1 := L2H.inv_startH S hpin e0 hl r x
  refine wpAny_mono (ht.run [] s1 (L2.start N vs) H _ I hq) (fun fl s' hs => ?_) fun e s' hs => hs
  have fin : ∀ {σ' : L2.St} {H' : Hp} {v : V} {u : Value}, Inv (L2H.cxH CX P w K mg base N qual scope f cdv A outer s H E p) [] σ' H' s' → RelV v u → Q v H' → CE outer P w H s Q u s' :=
    fun {σ' H' v u} J rv q => ⟨v, H', J.os, J.bare, J.base, J.hok, rv, q⟩
  cases fl with
  | ret u =>
    obtain ⟨v, σ', H', J, rv, q⟩ := hs
    exact fin J rv q
  | next =>
    obtain ⟨σ', H', J, q⟩ := hs
    exact fin (v := V.non) (u := Value.none) J rfl q
  | brk =>
    obtain ⟨_, _, _, q⟩ := hs
    exact False.elim q
  | cont =>
    obtain ⟨_, _, _, q⟩ := hs
    exact False.elim q
section
variable {X : Cx} {CX : CXT} {k : Nat} {f : Addr} {fd : FuncData} {ps : List Str} {sp : Sp} {E : L2.St → XK} {x : Str} {q pos : Pos} {e : Expr} {es : List Expr} {t : TA} {p : Addr × Obj}
theorem run_fnP {pins : List (Addr × Obj)} {σ : L2.St} {H : Hp} {s : Shared} {Q : VK} {us : List Value} {vs : List V} (F : FnP X.prog X.w X.K X.mg X.base CX k f fd ps sp p) (hr : L2H.RoomH k X.A) (hp : p ∈ X.pn) (hb : Binds X.K fd ps []) (hx : PassesAt CX X σ (E σ))
    (I : Inv X pins σ H s) (r : Vals vs us) (h : sp vs H Q (E σ)) : wpAny (model X.prog X.w) X.A (call (.ref f) us) (EP X pins σ Q) X.xe s := by
  have hl : us.length = ps.length := by rw [← r.length]; exact F.len _ _ _ _ h
  have b := hb s us I.kIn (by rw [List.append_nil]; exact hl)
  rw [List.append_nil] at b
  have P1 := I.pin p (List.mem_append_left _ hp)
  have hpin : L2H.PinOk X.stack H s p := ⟨P1.1, P1.2.1, fun hm => (List.mem_cons.mp (I.stkSub p.1 hm)).elim P1.2.2.1 P1.2.2.2.1, P1.2.2.2.2⟩
  refine wpAny_call (codeAny_mono (F.run X.A X.stack s H ⟨us, []⟩ us vs Q (E σ) hr hpin I.env0 b r h) fun r s' hq => ?_)
  cases r with
  | error e => exact hx pins H s e s' I hq
  | ok fl =>
    cases fl with
    | ret u => exact I.after hq
    | next => exact False.elim hq
    | brk => exact False.elim hq
    | cont => exact False.elim hq
theorem pe_callP (F : FnP X.prog X.w X.K X.mg X.base CX k f fd ps sp p) (hr : L2H.RoomH k X.A) (hp : p ∈ X.pn) (hg : Gl X x) (hm : X.mg x = some (.ref f)) (hk : PySem.W.keepIn X.K (.ref f) = true) (hb : Binds X.K fd ps []) (hx : ∀ σ, PassesAt CX X σ (E σ))
    (ha : PA X (e :: es) t) (hdb : (x == ("__debug__" : Str)) = false := by decide) (he : starEach (e :: es) X.env = (false, eval e X.env) :: starEach es X.env := by rfl) (hpl : (backTo pos (starEach es X.env)).any (·.1) = false := by rfl) :
    PE X (.Call (.Name x q) (e :: es) [] pos) (tCallS sp E t) := by
  refine ⟨fun pins s σ H Q I h => ?_⟩
  refine wpAny_Call_Name_kw (ld_glob I hg hm ?_ hdb)
  refine PySem.W.callWith_K (h₀ := X.base) I.ok.mod.kin hk (thn (ha.run pos pins s σ H _ I h) fun us s1 ⟨vs, H1, I1, r, q⟩ => ⟨I1.kIn, ?_⟩) he hpl
  exact run_fnP F hr hp hb (hx σ) I1 r q
end
/-- the def x is handed an error of the class c that stands at a -/
def CalP (P : Program) (w : World) (K : PySem.W.Frag) (mg : Str → Option Value) (base : Heap) (x : Str) (ps : List Str) (k : Nat) (m : Str → Addr → List D → R D) : Prop :=
  ∃ f fd, mg x = some (.ref f) ∧ PySem.W.keepIn K (.ref f) = true ∧ Binds K fd ps [] ∧ ∀ (c : Str) (C : Addr), mg c = some (.ref C) → ∀ (a : Addr) (ob : Obj), Zc (.ref C) none ob → (∃ vs, ob.data = .fields vs) → FnP P w K mg base (L2.CX P w) k f fd ps (spF K mg ps.length (m c a)) (a, ob)
section
variable {P : Program} {w : World} {K : PySem.W.Frag} {mg : Str → Option Value} {base : Heap}
theorem calP_mk {x : Str} {st : Stmt} {N ps : List Str} {k : Nat} {own' : List Nat} {b : Str → Addr → Env → Sr} (F : Def K mg x st) (S : FnScope N ps (defScope st)) (hps : ps.length ≤ N.length)
    (hb : ∀ (kV doc pm : Value) (an : Option Addr) (cdv ct : Value) (us : List Value), us.length = ps.length → bindArgs (PySem.W.fnOf x x (defArgs st) (defBody st) (defScope st) .none kV doc pm an cdv ct) ⟨us, []⟩ = pure (ps.zip us))
    (hbody : ∀ (f : Addr) (cdv : Value) (A : Around) (outer : List PySem.Env) (s : Shared) (H : Hp) (E : XK) (c : Str) (C : Addr), mg c = some (.ref C) → ∀ (a : Addr) (ob : Obj), Zc (.ref C) none ob → (∃ vs, ob.data = .fields vs) → L2H.RoomH k (A.deeper (envOfC x (defScope st) s.heap.objs.size f cdv)) →
      VSs (L2H.cxH (L2.CX P w) P w K mg base N x (defScope st) f cdv A outer s H E (a, ob)) (fun cls d _ H => E cls d H) [] own' nol (defBody st) (b c a)) :
    CalP P w K mg base x ps (k + 1) (fun c a => runB N.length (b c a)) := by
  obtain ⟨f, fd, F, h⟩ := F
  refine ⟨f, fd, h, F.kp, F.binds hb, fun c C hc a ob hz hf => ?_⟩
  obtain ⟨oc, od, kV, doc, pm, an, cdv, ct, osl, rfl, lk, hcd⟩ := F.ex
  refine fn_ofP lk hcd S (fun vs H Q E h => h.1) fun A outer s H vs Q E hr hsp => ?_
  obtain ⟨hl, tb, ds, r, h⟩ := hsp
  refine ⟨_, (hbody f cdv A outer s H E c C hc a ob hz hf hr).ps, H, _, start_env tb r (by rw [hl]; exact hps), Pin.nol, ?_⟩
  unfold runB at h
  simp only [] at h
  generalize b c a (ds.map some ++ List.replicate (N.length - ds.length) none) = q at h
  cases q with
  | st => exact h
  | nx ρ => exact fun σ H' y _ => h .non H' [] y.base .non (fun _ z => nomatch z)
  | rt d => exact h
  | rb d ρ => exact h.elim
  | bk ρ => exact h.elim
  | ct ρ => exact h.elim
  | ex c ρ =>
    obtain ⟨C, h1, h2⟩ := h
    exact ⟨C, h1, fun σ H' y _ => h2 H' y.base⟩
theorem roomS {k : Nat} {A : Around} {v : Option Value} (r : Room k A) : L2H.RoomH k (A.mark v) := ⟨r.dp, r.un⟩
theorem vg_fnEx {X : Cx} {W : WX} {x c : Str} {C a : Addr} {ob : Obj} {ps : List Str} {k k' : Nat} {m : Str → Addr → List D → R D} {p pos : Pos} {e : Expr} {es : List Expr} {fs : Env → R (List D)} (F : CalP X.prog X.w X.K X.mg X.base x ps k m) (hc : X.mg c = some (.ref C)) (hz : Zc (.ref C) none ob) (hf : ∃ vs, ob.data = .fields vs) (hp : (a, ob) ∈ X.pn) (hr : L2H.RoomH k' X.A) (tk : Takes X W) (hg : Gl X x)
    (ha : VA X W (e :: es) fs) (hl : LenA fs ps.length) (hk : k ≤ k' := by decide) (hdb : (x == ("__debug__" : Str)) = false := by decide) (he : starEach (e :: es) X.env = (false, eval e X.env) :: starEach es X.env := by rfl) (hpl : (backTo pos (starEach es X.env)).any (·.1) = false := by rfl) :
    VG X W (.Call (.Name x p) (e :: es) [] pos) (callF (m c a) fs) := by
  obtain ⟨f, fd, h1, h2, h3, h4⟩ := F
  refine ⟨peW (pe_callP (h4 c C hc a ob hz hf) (hr.mono hk) hp hg h1 h2 h3 (fun σ => passAt tk σ) ha.pa hdb he hpl) fun σ H Q ⟨ρ, re, o⟩ => ⟨ρ, re, (Out.bind o).mono fun ds hd q vs H1 s1 r1 => ?_⟩⟩
  refine ⟨r1.length.trans (hl ρ ds hd), re.tabs.up s1, ds, r1, ?_⟩
  cases hz : m c a ds with
  | ok d => rw [hz] at q; exact fun v H' A s2 f2 n2 => q v H' A (s1.trans s2) f2 fun a z => s1.free (n2 a z)
  | ex c => rw [hz] at q; obtain ⟨C, h1, h2⟩ := q; exact ⟨C, h1, fun H' s2 => h2 H' (s1.trans s2)⟩
  | st => rw [hz] at q; exact q.elim
end
/-! ### isinstance there -/
theorem call_isEP {X : Cx} {a D : Addr} {oe : Obj} (C : ExcC X.K D) (hz : Zc (.ref D) none oe) (hf : ∃ vs, oe.data = .fields vs) (hp : (a, oe) ∈ X.pn) : CallR X (.builtin "isinstance") (rIsE X.K D a) := by
  intro pins s σ H xs us Q I r h
  obtain ⟨c, cv, b, rfl, hcv, e, q⟩ := h
  cases r with
  | cons rx rr =>
    cases rr with
    | cons rt rr =>
      cases rr
      cases rx
      have ec := hcv _ rt
      subst ec
      obtain ⟨hget, _⟩ := I.pin (a, oe) (List.mem_append.mpr (.inl hp))
      obtain ⟨vs, hv⟩ := hf
      have J : PySem.W.InstAt s.heap a oe D none := by
        obtain ⟨oc, od, oda, osl⟩ := oe
        obtain ⟨h1, h2⟩ := hz
        dsimp only at h1 h2 hv
        subst h1 h2 hv
        exact ⟨hget, rfl, rfl, trivial⟩
      exact PySem.W.kia_one (PySem.W.handS_kitx_exc C.hg C.hk C.hs C.hd C.ha C.hn C.ht C.hm) I.kIn J e (fun z => nomatch z) fun tk => ⟨.bl b, H, I.kept (t' := tk) fun _ _ z => z, rfl, q⟩
section
variable {X : Cx} {W : WX} {C a : Addr} {oe : Obj} {tb : List (Str × List (Str × Bool))} {c n x : Str} {p p1 p2 pos : Pos} {i : Nat}
theorem vg_isE_coreP {v : V} {cv : Value} (hp : (a, oe) ∈ X.pn) (T : IsT X.K X.mg tb) (hc : X.mg c = some (.ref C)) (hz : Zc (.ref C) none oe) (hf : ∃ vs, oe.data = .fields vs)
    (hg : Gl X "isinstance") (hm : X.mg "isinstance" = none) (pv : PE X (.Name n p1) (tVar i)) (hT : PE X (.Name x p2) (tC v)) (hv : ∀ u, RelV v u → u = cv)
    (hx : ∀ cv', (X.mg x = some cv' ∨ (X.mg x = none ∧ bootBuiltins x = some cv')) → cv' = cv)
    (he : starEach [.Name n p1, .Name x p2] X.env = (false, eval (.Name n p1) X.env) :: starEach [.Name x p2] X.env := by rfl) (he2 : starEach [.Name x p2] X.env = [(false, eval (.Name x p2) X.env)] := by rfl) (hpl : (backTo pos (starEach [.Name x p2] X.env)).any (·.1) = false := by rfl) :
    VG X W (.Call (.Name "isinstance" p) [.Name n p1, .Name x p2] [] pos) (isE i a (isXR tb c x)) := by
  rcases isXR_ok (c := c) (x := x) T with e | ⟨b, e, C', cv', h1, h2, h3, h4⟩
  · refine ⟨⟨fun pins s σ H Q I ⟨ρ, re, q⟩ => ?_⟩⟩
    unfold isE at q
    rw [e] at q
    exfalso
    split at q
    · split at q
      · exact q
      · exact q
    · exact q
  · rw [hc] at h1
    cases h1
    have ecv := hx cv' h3
    subst ecv
    refine ⟨peW (pe_callB (call_isEP h2 hz hf hp) hg hm boot_isinstance (pa_cons pv (pa_cons hT pa_nil he2) he) (by decide) (by decide) he hpl) fun σ H Q ⟨ρ, re, q⟩ => ?_⟩
    unfold isE at q
    rw [e] at q
    split at q
    · rename_i e0 a' ea
      split at q
      · rename_i z
        subst z
        obtain ⟨w, g1, g2⟩ := re.val i _ ea
        cases g2
        exact ⟨_, g1, v, cv', b, rfl, hv, h4, q _ H [] (Same.refl H) (.bl _) (fun _ h => nomatch h)⟩
      · exact q.elim
    · exact q.elim
theorem vg_isEP (hp : (a, oe) ∈ X.pn) (T : IsT X.K X.mg tb) (hc : X.mg c = some (.ref C)) (hz : Zc (.ref C) none oe) (hf : ∃ vs, oe.data = .fields vs)
    (hg : Gl X "isinstance") (hm : X.mg "isinstance" = none) (pv : PE X (.Name n p1) (tVar i)) (hgx : Gl X x) (hx : ∃ C, X.mg x = some (.ref C)) (hdb : (x == ("__debug__" : Str)) = false := by decide)
    (he : starEach [.Name n p1, .Name x p2] X.env = (false, eval (.Name n p1) X.env) :: starEach [.Name x p2] X.env := by rfl) (he2 : starEach [.Name x p2] X.env = [(false, eval (.Name x p2) X.env)] := by rfl) (hpl : (backTo pos (starEach [.Name x p2] X.env)).any (·.1) = false := by rfl) :
    VG X W (.Call (.Name "isinstance" p) [.Name n p1, .Name x p2] [] pos) (isE i a (isXR tb c x)) := by
  obtain ⟨Cy, hy⟩ := hx
  exact vg_isE_coreP (v := .ref Cy) (cv := .ref Cy) hp T hc hz hf hg hm pv (pe_glob hgx hy rfl hdb) (fun u r => r) (fun cv' q => by rcases q with q | ⟨q, _⟩ <;> rw [hy] at q <;> cases q; rfl) he he2 hpl
theorem vg_isEBP {t : String} (hp : (a, oe) ∈ X.pn) (T : IsT X.K X.mg tb) (hc : X.mg c = some (.ref C)) (hz : Zc (.ref C) none oe) (hf : ∃ vs, oe.data = .fields vs)
    (hg : Gl X "isinstance") (hm : X.mg "isinstance" = none) (pv : PE X (.Name n p1) (tVar i)) (hgx : Gl X x) (hx : X.mg x = none) (hb : bootBuiltins x = some (.type t)) (hn : x ≠ "__name__" := by decide) (hdb : (x == ("__debug__" : Str)) = false := by decide)
    (he : starEach [.Name n p1, .Name x p2] X.env = (false, eval (.Name n p1) X.env) :: starEach [.Name x p2] X.env := by rfl) (he2 : starEach [.Name x p2] X.env = [(false, eval (.Name x p2) X.env)] := by rfl) (hpl : (backTo pos (starEach [.Name x p2] X.env)).any (·.1) = false := by rfl) :
    VG X W (.Call (.Name "isinstance" p) [.Name n p1, .Name x p2] [] pos) (isE i a (isXR tb c x)) :=
  vg_isE_coreP (v := .ty t) (cv := .type t) hp T hc hz hf hg hm pv (pe_bltn hgx hx hb rfl hn hdb) (fun u r => r) (fun cv' q => q.elim (fun q => by rw [hx] at q; cases q) fun ⟨_, q⟩ => by rw [hb] at q; cases q; rfl) he he2 hpl
end
end Vs

namespace Vs
open PySem PySem.Spec PyProof.Rows L2
/-! ### isinstance(x, c), x an object of an own class, c an own class -/
/-- what a class must have for it -/
structure ObjC (K : PySem.W.Frag) (C : Addr) : Prop where
  cl : Cls K C
  ha : PySem.W.findIn K (.ref C) "__class__" = some (some (.builtin "object.__class__"))
  hn : PySem.W.specialIn K (.builtin "object.__class__") "__get__" = some (some (.builtin "getset_descriptor.__get__"))
  ht : PySem.W.takesIn K (.builtin "object.__class__") = some true
  hm : PySem.W.mroIn K C (.type "object") = some true
def ObjK (K : PySem.W.Frag) (c : Str) : Prop := ∃ C, PySem.W.nsIn K mainGlobals c = some (some (.ref C)) ∧ ObjC K C
theorem objK_mk {K : PySem.W.Frag} {c : Str} {C : Addr} (a : PySem.W.nsIn K mainGlobals c = some (some (.ref C))) (pg : PySem.W.plainGet K C Str.empty = true) (hd : PySem.W.hasDictIn K C = true) (po : PySem.W.plainOver K C = true) (sa : PySem.W.findIn K (.ref C) "__setattr__" = some (some (.builtin "object.__setattr__")))
    (h1 : PySem.W.findIn K (.ref C) "__class__" = some (some (.builtin "object.__class__"))) (h2 : PySem.W.specialIn K (.builtin "object.__class__") "__get__" = some (some (.builtin "getset_descriptor.__get__"))) (h3 : PySem.W.takesIn K (.builtin "object.__class__") = some true) (h4 : PySem.W.mroIn K C (.type "object") = some true) : ObjK K c := ⟨C, a, ⟨pg, hd, po, sa⟩, h1, h2, h3, h4⟩
/-- an object of the class c: whether it is an x -/
def IsPO (K : PySem.W.Frag) (mg : Str → Option Value) (c x : Str) (b : Bool) : Prop := ∃ C D, PySem.W.nsIn K mainGlobals c = some (some (.ref C)) ∧ ObjC K C ∧ mg x = some (.ref D) ∧ PySem.W.kitOne K (.ref C) (.ref D) = some b
structure IsTO (K : PySem.W.Frag) (mg : Str → Option Value) (tb : List (Str × List (Str × Bool))) : Prop where
  ex : ∀ c l, tb.lookup c = some l → ∀ x b, l.lookup x = some b → IsPO K mg c x b
def IsRowO (K : PySem.W.Frag) (mg : Str → Option Value) (c : Str) (l : List (Str × Bool)) : Prop := ∀ x b, l.lookup x = some b → IsPO K mg c x b
section
variable {K : PySem.W.Frag} {mg : Str → Option Value} {h : Heap} {c x : Str} {b : Bool}
theorem isPO_own (X : K.In h) (G : h.Ns mainGlobals mg) (e : ObjK K c) (k : KitO K c x b) : IsPO K mg c x b := by
  obtain ⟨C, a, e⟩ := e
  obtain ⟨C', D, a', d, k⟩ := k
  rw [a] at a'
  cases a'
  exact ⟨C, D, a, e, PySem.W.mg_of X G d, k⟩
theorem objM_of (X : K.In h) (G : h.Ns mainGlobals mg) (e : ObjK K c) : ∃ C, mg c = some (.ref C) := by
  obtain ⟨C, a, _⟩ := e
  exact ⟨C, PySem.W.mg_of X G a⟩
theorem isRowO_nil : IsRowO K mg c [] := fun x b q => nomatch q
theorem isRowO_cons {l : List (Str × Bool)} (p : IsPO K mg c x b) (r : IsRowO K mg c l) : IsRowO K mg c ((x, b) :: l) := fun x' b' q => by
  rw [List.lookup_cons] at q
  split at q
  · rename_i z
    have z : x' = x := by simpa using z
    subst z
    cases q
    exact p
  · exact r x' b' q
theorem isTO_nil : IsTO K mg [] := ⟨fun c l q => nomatch q⟩
theorem isTO_cons {l : List (Str × Bool)} {tb : List (Str × List (Str × Bool))} (p : IsRowO K mg c l) (r : IsTO K mg tb) : IsTO K mg ((c, l) :: tb) := ⟨fun c' l' q => by
  rw [List.lookup_cons] at q
  split at q
  · rename_i z
    have z : c' = c := by simpa using z
    subst z
    cases q
    exact p
  · exact r.ex c' l' q⟩
end
def isOE (tb : List (Str × List (Str × Bool))) (x : Str) (f : Env → R D) (ρ : Env) : R D := (f ρ).bind fun d => match d with
  | .obj c _ _ => isXR tb c x
  | _ => .st
section
variable {X : Cx} {W : WX} {a : Expr} {f : Env → R D} {p p2 pos : Pos} {x : Str} {tb : List (Str × List (Str × Bool))}
theorem vg_isOE (T : IsTO X.K X.mg tb) (hg : Gl X "isinstance") (hm : X.mg "isinstance" = none) (ha : VE X W a f) (hgx : Gl X x) (hx : ∃ C, X.mg x = some (.ref C)) (hdb : (x == ("__debug__" : Str)) = false := by decide)
    (he : starEach [a, .Name x p2] X.env = (false, eval a X.env) :: starEach [.Name x p2] X.env := by rfl) (he2 : starEach [.Name x p2] X.env = [(false, eval (.Name x p2) X.env)] := by rfl) (hpl : (backTo pos (starEach [.Name x p2] X.env)).any (·.1) = false := by rfl) : VG X W (.Call (.Name "isinstance" p) [a, .Name x p2] [] pos) (isOE tb x f) := by
  obtain ⟨Dx, hy⟩ := hx
  refine ⟨peW (pe_callB call_isi hg hm boot_isinstance (pa_cons ha.pe (pa_cons (pe_glob (v := .ref Dx) hgx hy rfl hdb) pa_nil he2) he) (by decide) (by decide) he hpl) fun σ H Q ⟨ρ, re, o⟩ => ⟨ρ, re, (Out.bind o).mono fun d _ q v H1 s1 r1 => ?_⟩⟩
  show rIsi X.K [v, .ref Dx] H1 Q
  cases r1 with
  | @obj a C dx fl c ks ds g1 g2 g3 g4 g5 =>
    have q : Out X.mg W σ H (isXR tb c x) _ := q
    unfold isXR at q
    cases e1 : tb.lookup c with
    | none => rw [e1] at q; exact q.elim
    | some l =>
      rw [e1] at q
      simp only at q
      cases e2 : l.lookup x with
      | none => rw [e2] at q; exact q.elim
      | some b =>
        rw [e2] at q
        obtain ⟨C', D', k1, k2, k3, k4⟩ := T.ex c l e1 x b e2
        have g3' : PySem.W.nsIn X.K mainGlobals c = some (some (.ref C)) := g3
        rw [k1] at g3'
        cases g3'
        rw [hy] at k3
        cases k3
        exact ⟨_, .ref Dx, _, _, b, rfl, .own Dx, .base (.ins g1 k2.cl k2.ha k2.hn k2.ht k2.hm), k4, q _ H1 [] s1 (.bl b) (fun _ h => nomatch h)⟩
  | _ => exact q.elim
end
/-! ### C() where __init__ is object's -/
structure MkO (K : PySem.W.Frag) (C : Addr) : Prop where
  makes : PySem.W.makesIn K C = true
  init : PySem.W.findIn K (.ref C) "__init__" = some (some (.builtin "object.__init__"))
  kp : PySem.W.keepIn K (.ref C) = true
def MkOC (K : PySem.W.Frag) (c : Str) : Prop := ∃ C, PySem.W.nsIn K mainGlobals c = some (some (.ref C)) ∧ MkO K C
theorem mkO_mk {K : PySem.W.Frag} {c : Str} {C : Addr} (a : PySem.W.nsIn K mainGlobals c = some (some (.ref C))) (b : PySem.W.makesIn K C = true) (i : PySem.W.findIn K (.ref C) "__init__" = some (some (.builtin "object.__init__"))) (k : PySem.W.keepIn K (.ref C) = true) : MkOC K c := ⟨C, a, b, i, k⟩
/-- in the def's world -/
def MkOM (K : PySem.W.Frag) (mg : Str → Option Value) (c : Str) : Prop := ∃ C, PySem.W.nsIn K mainGlobals c = some (some (.ref C)) ∧ mg c = some (.ref C) ∧ MkO K C
theorem mkOM_of {K : PySem.W.Frag} {mg : Str → Option Value} {h : Heap} {c : Str} (X : K.In h) (G : h.Ns mainGlobals mg) (e : MkOC K c) : MkOM K mg c := by
  obtain ⟨C, a, e⟩ := e
  exact ⟨C, a, PySem.W.mg_of X G a, e⟩
def makeO (c : Str) (_ : Env) : R D := .ok (.obj c [] [])
section
variable {X : Cx} {W : WX} {C : Addr} {c x : Str} {p pos : Pos}
theorem run_makeO {pins : List (Addr × Obj)} {σ : L2.St} {H : Hp} {s : Shared} {Q : VK} (M : MkO X.K C) (I : Inv X pins σ H s)
    (h : ∀ x dx, H x = none → H dx = none → dx ≠ x → Q (.ref x) (upd (upd H dx (.own x)) x (.ins C dx []))) :
    wpAny (model X.prog X.w) X.A (call (.ref C) []) (EP X pins σ Q) X.xe s := by
  have hq := h (s.heap.objs.size + 1) s.heap.objs.size (I.hok.fresh (Nat.le_succ _)) (I.hok.fresh (Nat.le_refl _)) (Nat.ne_of_lt (Nat.lt_succ_self _))
  have I2 := Inv.made (C := C) I
  have Y := PySem.W.makes_of (M := model X.prog X.w) I.kIn M.makes
  refine wpAny_call (make_map0 I.kIn M.makes M.init (fun self => PySem.W.Looks.of_pure (PySem.W.oi_bind self)) ?_)
  have g1 : ((s.heap.push PySem.W.emptyDict).push (PySem.W.instObj C s.heap.objs.size)).get? (s.heap.objs.size + 1) = some (PySem.W.instObj C s.heap.objs.size) := by
    have := Heap.get?_push_size (s.heap.push PySem.W.emptyDict) (o := PySem.W.instObj C s.heap.objs.size) rfl
    rwa [Heap.size_push] at this
  have t1 : PySem.W.Looks (model X.prog X.w) ((s.heap.push PySem.W.emptyDict).push (PySem.W.instObj C s.heap.objs.size)) (typeOf (.ref (s.heap.objs.size + 1))) (.ref C) := (PySem.W.Looks.ld g1).andThen .now
  have t2 : PySem.W.Looks (model X.prog X.w) ((s.heap.push PySem.W.emptyDict).push (PySem.W.instObj C s.heap.objs.size)) (isInstance (.ref (s.heap.objs.size + 1)) (.type "object")) true := t1.andThen (Y.top.keeps fun b o e => Heap.get?_push_of_some _ (Heap.get?_push_of_some _ e))
  refine codeAny_call_builtin PySem.W.oi_plain PySem.W.entry_oi (@PySem.W.check_slot (model X.prog X.w) _ _ _ "object.__init__" "object" "__init__" (.ref (s.heap.objs.size + 1)) [] [] _ PySem.W.oi_kind PySem.W.oi_split t2 (PySem.W.oi_args (.ref (s.heap.objs.size + 1))) ?_)
  rw [PySem.W.oi_run]
  exact wpAny_pure (And.intro rfl ⟨V.ref (s.heap.objs.size + 1), _, I2, rfl, hq⟩)
theorem vg_makeO (M : MkOM X.K X.mg c) (hg : Gl X c) (hdb : (c == ("__debug__" : Str)) = false := by decide) : VG X W (.Call (.Name c p) [] [] pos) (makeO c) := by
  obtain ⟨C, h1, h2, M⟩ := M
  refine ⟨⟨fun pins s σ H Q I ⟨ρ, re, o⟩ => ?_⟩⟩
  refine wpAny_Call_Name_kw (ld_glob I hg h2 ?_ hdb)
  refine PySem.W.callWith_K0 I.kIn M.kp (run_makeO M I fun x dx hx hdx ne => ?_)
  have sA : Same H (upd H dx (.own x)) := new_same hdx
  have hx2 : (upd H dx (.own x)) x = none := by rw [upd_ne fun e => ne e.symm]; exact hx
  have sB : Same H (upd (upd H dx (.own x)) x (.ins C dx [])) := sA.trans (new_same hx2)
  generalize hH2 : upd (upd H dx (.own x)) x (.ins C dx []) = H2 at sB
  have ex : H2 x = some (.ins C dx []) := by rw [← hH2, upd_same]
  have edx : H2 dx = some (.own x) := by rw [← hH2, upd_ne ne, upd_same]
  refine o (.ref x) H2 [x, dx] sB (.obj (A := []) ex edx h1 rfl .nil (fun z => nomatch z) (fun z => nomatch z) ne.symm) fun a m => ?_
  rcases List.mem_cons.mp m with e | m
  · rw [e]; exact hx
  · rw [List.mem_singleton.mp m]; exact hdx
end
end Vs

namespace Vs
open PySem PySem.Spec PyProof.Rows L2
/-! ### defs whose errors have no context: they may be caught by a clause that raises -/
section
variable {X : Cx} {W : WX} {own own' own1 oe : List Nat} {ol : Ol} {pos : Pos} {b : Env → Sr} {tb : List (Str × Bool)}
theorem vs_raiseN {x m : Str} {j : Nat} {p p2 p3 : Pos} (E : ExR X.K X.mg x) (hc : X.calm = true) (tk : L2N.Takes X W) (hg : Gl X x) (hdb : (x == ("__debug__" : Str)) = false := by decide) (we : ∀ i ∈ ol.e, i ∈ own := by first | decide | (dsimp only; decide)) :
    VS X W own own' ol (.Raise (some (.Call (.Name x p) [.Constant (.str m) j p2] [] p3)) none pos) (raiseS x) := by
  obtain ⟨C, B, newId, initId, bm, a, F, e, k, s, t⟩ := E.ex
  exact ⟨psW (L2N.ps_raise hc tk (L2N.pmk_own F e a k (raises_own s t) hg hdb)) fun D σ H ⟨B, ρ, x, pn, q⟩ => by
    obtain ⟨C', h1, h2⟩ := q
    rw [a] at h1
    cases h1
    exact h2 σ H (x.weak we) pn⟩
theorem vg_indexN {o e : Expr} {f h : Env → R D} {apos : Pos} (hc : X.calm = true) (ho : VE X W o f) (he : VE X W e h)
    (hbase : attributeBase o "index" X.env (eval o X.env) = eval o X.env := by rfl)
    (hfew : ((backTo pos (starEach (e :: []) X.env)).all (fun x => !x.1) && (backToKw pos (keywordEach [] X.env)).all (fun x => x.1.isSome)
      && decide ((e :: []).length + ([] : List Keyword).length + (if ([] : List Keyword).isEmpty then 0 else 1) < 30)) = true := by rfl)
    (hline : (apos.endLine == pos.line) = true := by rfl) (hs : starEach (e :: []) X.env = (false, eval e X.env) :: starEach [] X.env := by rfl) (hplain : (backTo pos (starEach [] X.env)).any (·.1) = false := by rfl) :
    VG X W (.Call (.Attribute o "index" apos) [e] [] pos) (m1E indexG f h) :=
  ⟨peW (pe_bmS PySem.F.plainAttrs_str PySem.F.slot_str_index PySem.F.type_str_index (mt_indexX hc (takes0 (X := X))) ho.pe (pa_cons he.pe pa_nil hs) hbase hfew hline hs hplain) fun σ H Q ⟨ρ, re, q⟩ => ⟨ρ, re, (Out.bind q).mono fun d _ q v H1 s1 r1 => by
    cases d with
    | str a =>
      cases r1
      refine ⟨rfl, ρ, re.mono s1, ((Out.bind (show Out X.mg W σ H ((h ρ).bind (indexG a)) _ from q)).up s1).mono fun e _ q w H2 s2 r2 => ?_⟩
      cases e with
      | str b =>
        cases r2
        refine ⟨a, b, rfl, rfl, fun k hk => ?_, fun hn => ?_⟩
        · simp only [indexG, hk] at q
          exact q _ H2 [] (s1.trans s2) (.int _) (fun _ h => nomatch h)
        · simp only [indexG, hn] at q
          exact q.elim
      | _ => exact q.elim
    | _ => exact q.elim⟩⟩
end
def CalN (P : Program) (w : World) (K : PySem.W.Frag) (mg : Str → Option Value) (base : Heap) (x : Str) (ps : List Str) (k : Nat) (m : List D → R D) : Prop :=
  ∃ f fd, mg x = some (.ref f) ∧ PySem.W.keepIn K (.ref f) = true ∧ Binds K fd ps [] ∧ FnOk P w K mg base (L2N.CX P w) k f fd ps (spF K mg ps.length m)
section
variable {P : Program} {w : World} {K : PySem.W.Frag} {mg : Str → Option Value} {base : Heap}
theorem calN_mk {x : Str} {st : Stmt} {N ps : List Str} {k : Nat} {own' : List Nat} {b : Env → Sr} (F : Def K mg x st) (S : FnScope N ps (defScope st)) (hps : ps.length ≤ N.length)
    (hb : ∀ (kV doc pm : Value) (an : Option Addr) (cdv ct : Value) (us : List Value), us.length = ps.length → bindArgs (PySem.W.fnOf x x (defArgs st) (defBody st) (defScope st) .none kV doc pm an cdv ct) ⟨us, []⟩ = pure (ps.zip us))
    (hbody : ∀ (f : Addr) (cdv : Value) (A : Around) (outer : List PySem.Env) (s : Shared) (H : Hp) (E : XK), Room k (A.deeper (envOfC x (defScope st) s.heap.objs.size f cdv)) →
      VSs (cxOf (L2N.CX P w) P w K mg base N x (defScope st) f cdv A outer s H E) (fun cls d _ H => E cls d H) [] own' nol (defBody st) b) :
    CalN P w K mg base x ps (k + 1) (runB N.length b) := by
  obtain ⟨f, fd, F, h⟩ := F
  refine ⟨f, fd, h, F.kp, F.binds hb, ?_⟩
  obtain ⟨oc, od, kV, doc, pm, an, cdv, ct, osl, rfl, lk, hcd⟩ := F.ex
  refine fn_of lk hcd S (fun vs H Q E h => h.1) fun A outer s H vs Q E hr hsp => ?_
  obtain ⟨hl, tb, ds, r, h⟩ := hsp
  refine ⟨_, (hbody f cdv A outer s H E hr).ps, H, _, start_env tb r (by rw [hl]; exact hps), Pin.nol, ?_⟩
  unfold runB at h
  generalize b (ds.map some ++ List.replicate (N.length - ds.length) none) = q at h
  cases q with
  | st => exact h
  | nx ρ => exact fun σ H' y _ => h .non H' [] y.base .non (fun _ z => nomatch z)
  | rt d => exact h
  | rb d ρ => exact h.elim
  | bk ρ => exact h.elim
  | ct ρ => exact h.elim
  | ex c ρ =>
    obtain ⟨C, h1, h2⟩ := h
    exact ⟨C, h1, fun σ H' y _ => h2 H' y.base⟩
theorem vg_fnN {X : Cx} {W : WX} {x : Str} {ps : List Str} {k k' : Nat} {m : List D → R D} {p pos : Pos} {e : Expr} {es : List Expr} {fs : Env → R (List D)} (C : CalN X.prog X.w X.K X.mg X.base x ps k m) (hr : Room k' X.A) (tk : L2N.Takes X W) (hg : Gl X x)
    (ha : VA X W (e :: es) fs) (hl : LenA fs ps.length) (hk : k ≤ k' := by decide) (hdb : (x == ("__debug__" : Str)) = false := by decide) (he : starEach (e :: es) X.env = (false, eval e X.env) :: starEach es X.env := by rfl) (hpl : (backTo pos (starEach es X.env)).any (·.1) = false := by rfl) :
    VG X W (.Call (.Name x p) (e :: es) [] pos) (callF m fs) := by
  obtain ⟨f, fd, h1, h2, h3, h4⟩ := C
  exact ⟨peW (pe_callS h4 (hr.mono hk) hg h1 h2 h3 (fun σ => L2N.passAt tk σ) ha.pa hdb he hpl) fun σ H Q ⟨ρ, re, o⟩ => ⟨ρ, re, (Out.bind o).mono fun ds hd q vs H1 s1 r1 => by
    refine ⟨r1.length.trans (hl ρ ds hd), re.tabs.up s1, ds, r1, ?_⟩
    cases hz : m ds with
    | ok d => rw [hz] at q; exact fun v H' A s2 f2 n2 => q v H' A (s1.trans s2) f2 fun a z => s1.free (n2 a z)
    | ex c => rw [hz] at q; obtain ⟨C, h1, h2⟩ := q; exact ⟨C, h1, fun H' s2 => h2 H' (s1.trans s2)⟩
    | st => rw [hz] at q; exact q.elim⟩⟩
end
/-! ### try: body, except h: raise x("m") -/
def tryRS (tb : List (Str × Bool)) (b : Env → Sr) (x : Str) (ρ : Env) : Sr := match b ρ with
  | .ex c ρ' => (match tb.lookup c with
    | some true => .ex x ρ'
    | some false => .ex c ρ'
    | none => .st)
  | r => r
section
variable {X : Cx} {W : WX} {own own' own1 oe : List Nat} {ol : Ol} {pos : Pos} {b : Env → Sr} {tb : List (Str × Bool)}
theorem vs_tryR {h x m : Str} {j : Nat} {body : List Stmt} {np pos' p p2 p3 rpos : Pos} (E : ExM X.K X.mg h tb) (Ex : ExR X.K X.mg x) (hs : X.stack = X.env :: X.outer) (hf : X.env.frame = some X.env.locals) (hg : Gl X h) (hgx : Gl X x) (hpa : ∀ hd : Option Value, PassesOwnAt (model X.prog X.w) (X.A.mark hd) X.A X.env X.xe) (tk : Takes X W)
    (hb : ∀ (W : WX) (pn : List (Addr × Obj)) (xe : Value → Shared → Prop), L2N.Takes (X.tr pn xe) W → PassesOwn (model X.prog X.w) X.A X.env xe → VSs (X.tr pn xe) W own own1 { ol with e := oe } body b)
    (w1 : ∀ i ∈ own', i ∈ own1 := by decide) (w4 : ∀ j ∈ ol.e, j ∈ oe := by first | decide | (dsimp only; decide)) (hdb : (h == ("__debug__" : Str)) = false := by decide) (hdx : (x == ("__debug__" : Str)) = false := by decide) :
    VS X W own own' ol (.Try body [.ExceptHandler (some (.Name h np)) none [.Raise (some (.Call (.Name x p) [.Constant (.str m) j p2] [] p3)) none rpos] pos'] [] [] pos) (tryRS tb b x) := by
  obtain ⟨Ch, eh, E⟩ := E.ex
  obtain ⟨Cx', B', newId, initId, bm, a', F, e', k, s', t'⟩ := Ex.ex
  refine ⟨psW (L2H.ps_try_onlyX (c := .ref Ch) (Wout := W) (tb := fun W => tS X.K X.mg W own own1 { ol with e := oe } b)
    (ts := fun a cls d => fun D σ H => W (.ref Cx') none σ H) hs hf ⟨hg, hdb, .inl eh⟩ hpa tk
    (fun W pn xe tkN _ po => (hb W pn xe tkN po).ps) (fun a ob cls d pn hz hf tkX hot => pss_one (psW (L2H.ps_raiseH hot tkX (L2N.pmk_own (X := L2H.suiteX X a ((a, ob) :: pn)) F e' a' k (raises_own s' t') hgx hdx)) fun D σ H w => w))) fun D σ H ⟨B, ρ, x, pn, q⟩ => ⟨B, ρ, x, pn, ?_⟩⟩
  unfold tryRS at q
  cases e : b ρ with
  | st => rw [e] at q; exact q.elim
  | nx ρ' => rw [e] at q; exact fun σ H y pz => q σ H (y.weak w1) pz
  | rt d => rw [e] at q; exact q
  | rb d ρ' => rw [e] at q; exact q
  | bk ρ' => rw [e] at q; exact q
  | ct ρ' => rw [e] at q; exact q
  | ex c ρ' =>
    rw [e] at q
    simp only at q
    cases et : tb.lookup c with
    | none => rw [et] at q; exact q.elim
    | some k =>
      rw [et] at q
      cases k with
      | false =>
        obtain ⟨C, hC, q⟩ := q
        obtain ⟨C2, h2, e2⟩ := E c false et
        rw [hC] at h2
        cases h2
        exact ⟨C, hC, fun σ' H' y pz => ⟨false, e2, (fun z => nomatch z), fun _ => q σ' H' (y.weak w4) pz⟩⟩
      | true =>
        obtain ⟨C, hC, eC⟩ := E c true et
        obtain ⟨Cq, hq, q⟩ := q
        rw [a'] at hq
        cases hq
        exact ⟨C, hC, fun σ' H' y pz => ⟨true, eC, fun _ a ha => q σ' H' (y.weak w4) pz, (fun z => nomatch z)⟩⟩
end
end Vs

namespace Vs
open PySem PySem.Spec PyProof.Rows L2
/-! ### x.m(..), x an object of one of several classes -/
theorem peOr {X : Cx} {e : Expr} {t u : TE} (h : PE X e t) (h' : PE X e u) : PE X e (fun σ H Q => t σ H Q ∨ u σ H Q) := ⟨fun pins s σ H Q I x => x.elim (h.run pins s σ H Q I) (h'.run pins s σ H Q I)⟩
def isC (c : Str) (f : Env → R D) (ρ : Env) : Bool := match f ρ with
  | .ok (.obj c' _ _) => decide (c' = c)
  | .ok _ => false
  | _ => true
def polyE (c : Str) (f g1 g2 : Env → R D) (ρ : Env) : R D := if isC c f ρ = true then g1 ρ else g2 ρ
theorem vg_poly {X : Cx} {W : WX} {e : Expr} (c : Str) (f : Env → R D) {g1 g2 : Env → R D} (h1 : VG X W e g1) (h2 : VG X W e g2) : VG X W e (polyE c f g1 g2) := ⟨peW (peOr h1.pe h2.pe) fun σ H Q ⟨ρ, re, q⟩ => by
  unfold polyE at q
  split at q
  · exact .inl ⟨ρ, re, q⟩
  · exact .inr ⟨ρ, re, q⟩⟩
/-! ### try: body, except h1: s1, except h2: s2, .. -/
def pickS (c : Str) (ρ : Env) : List (List (Str × Bool) × (Env → Sr)) → Sr
  | [] => .ex c ρ
  | (tb, s) :: r => match tb.lookup c with
    | some true => noexS (s ρ)
    | some false => pickS c ρ r
    | none => .st
def tryMS (l : List (List (Str × Bool) × (Env → Sr))) (b : Env → Sr) (ρ : Env) : Sr := match b ρ with
  | .ex c ρ' => pickS c ρ' l
  | r => r
inductive HdsV (X : Cx) (oe own2 : List Nat) (ol : Ol) : List ExceptHandler → List (List (Str × Bool) × (Env → Sr)) → Prop
  | nil : HdsV X oe own2 ol [] []
  | cons {h : Str} {tb : List (Str × Bool)} {s : Env → Sr} {b₀ : Stmt} {suite : List Stmt} {np pos' : Pos} {hds : List ExceptHandler} {l : List (List (Str × Bool) × (Env → Sr))} (E : ExM X.K X.mg h tb) (hg : Gl X h) (hdb : (h == ("__debug__" : Str)) = false)
      (hsu : ∀ (a : Addr) (ob : Obj) (pn : List (Addr × Obj)), VSs (X.suite a ((a, ob) :: pn)) (fun _ _ _ _ => False) oe own2 { ol with e := [] } (b₀ :: suite) s) (r : HdsV X oe own2 ol hds l) :
      HdsV X oe own2 ol (.ExceptHandler (some (.Name h np)) none (b₀ :: suite) pos' :: hds) ((tb, s) :: l)
section
variable {X : Cx} {W : WX} {own own' own1 own2 oe : List Nat} {ol : Ol} {pos : Pos} {b : Env → Sr}
theorem many_wish {hds : List ExceptHandler} {l : List (List (Str × Bool) × (Env → Sr))} (w2 : ∀ i ∈ own', i ∈ own2) (w4 : ∀ j ∈ ol.e, j ∈ oe) (hh : HdsV X oe own2 ol hds l) : ∃ l', HdsOk X hds l' ∧ ∀ (D : Ends) (B : Hp) (ρ : Env) (c : Str) (C : Addr), X.mg c = some (.ref C) → SEnd X.K X.mg W own' ol B D (pickS c ρ l) →
    ∀ σ H, Sta oe B X.K ρ σ H → Pin ol.P σ → wMany X.K W D l' (.ref C) none σ H := by
  induction hh with
  | nil => exact ⟨[], .nil, fun D B ρ c C hC q σ H y pz => by
      obtain ⟨C', h1, h2⟩ := q
      rw [hC] at h1
      cases h1
      exact h2 σ H (y.weak w4) pz⟩
  | @cons h tb s b₀ suite np pos' hds l E hg hdb hsu r ih =>
    obtain ⟨l', ok, wish⟩ := ih
    obtain ⟨Ch, eh, E⟩ := E.ex
    refine ⟨(.ref Ch, fun a cls d => fun D σ H => tS X.K X.mg (fun _ _ _ _ => False) oe own2 { ol with e := [] } s D σ H) :: l', .cons ⟨hg, hdb, .inl eh⟩ (fun a ob cls d pn hz hf => (hsu a ob pn).ps) ok, fun D B ρ c C hC q σ H y pz => ?_⟩
    unfold pickS at q
    cases et : tb.lookup c with
    | none => rw [et] at q; exact q.elim
    | some k =>
      rw [et] at q
      obtain ⟨C2, h2, e2⟩ := E c k et
      rw [hC] at h2
      cases h2
      refine ⟨k, e2, fun z a ha => ?_, fun z => ?_⟩
      · subst z
        simp only at q
        refine ⟨B, ρ, y, pz, ?_⟩
        cases es : s ρ with
        | st => rw [es] at q; exact q.elim
        | nx ρ2 => rw [es] at q; exact (show SEnd X.K X.mg W own' ol B D (.nx ρ2) from q).weak w2
        | rt d => rw [es] at q; exact q
        | rb d ρ2 => rw [es] at q; exact q
        | bk ρ2 => rw [es] at q; exact q
        | ct ρ2 => rw [es] at q; exact q
        | ex c2 ρ2 => rw [es] at q; exact q.elim
      · subst z
        exact wish D B ρ c C hC q σ H y pz
theorem vs_tryMany {body : List Stmt} {h₀ : ExceptHandler} {hds : List ExceptHandler} {l : List (List (Str × Bool) × (Env → Sr))} (hc : ∀ c : Str, (∃ tb s r, l = (tb, s) :: r ∧ ∃ k, tb.lookup c = some k) → ∃ C, X.mg c = some (.ref C)) (hs : X.stack = X.env :: X.outer) (hf : X.env.frame = some X.env.locals) (tk : Takes X W)
    (hb : ∀ (W : WX) (pn : List (Addr × Obj)) (xe : Value → Shared → Prop), Takes (X.tr pn xe) W → PassesOwn (model X.prog X.w) X.A X.env xe → VSs (X.tr pn xe) W own own1 { ol with e := oe } body b)
    (hh : HdsV X oe own2 ol (h₀ :: hds) l) (w1 : ∀ i ∈ own', i ∈ own1 := by decide) (w2 : ∀ i ∈ own', i ∈ own2 := by decide) (w4 : ∀ j ∈ ol.e, j ∈ oe := by first | decide | (dsimp only; decide)) :
    VS X W own own' ol (.Try body (h₀ :: hds) [] [] pos) (tryMS l b) := by
  obtain ⟨l', ok, wish⟩ := many_wish (W := W) (own' := own') w2 w4 hh
  refine ⟨psW (ps_try_many (Wout := W) (tb := fun W => tS X.K X.mg W own own1 { ol with e := oe } b) hs hf tk (fun W pn xe tk po => (hb W pn xe tk po).ps) ok) fun D σ H ⟨B, ρ, x, pn, q⟩ => ⟨B, ρ, x, pn, ?_⟩⟩
  unfold tryMS at q
  cases e : b ρ with
  | st => rw [e] at q; exact q.elim
  | nx ρ' => rw [e] at q; exact fun σ H y pz => q σ H (y.weak w1) pz
  | rt d => rw [e] at q; exact q
  | rb d ρ' => rw [e] at q; exact q
  | bk ρ' => rw [e] at q; exact q
  | ct ρ' => rw [e] at q; exact q
  | ex c ρ' =>
    rw [e] at q
    have q : SEnd X.K X.mg W own' ol B D (pickS c ρ' l) := q
    obtain ⟨C, hC⟩ : ∃ C, X.mg c = some (.ref C) := by
      cases hh with
      | @cons h tb s b₀ suite np pos' hds l E hg hdb hsu r =>
        refine hc c ⟨tb, s, l, rfl, ?_⟩
        unfold pickS at q
        cases et : tb.lookup c with
        | none => rw [et] at q; exact q.elim
        | some k => exact ⟨k, rfl⟩
    exact ⟨C, hC, fun σ' H' y pz => wish D B ρ' c C hC q σ' H' y pz⟩
/-- the classes of a clause's table are there -/
theorem exM_has {h : Str} {tb : List (Str × Bool)} {s : Env → Sr} {l : List (List (Str × Bool) × (Env → Sr))} (E : ExM X.K X.mg h tb) : ∀ c : Str, (∃ tb' s' r, (tb, s) :: l = (tb', s') :: r ∧ ∃ k, tb'.lookup c = some k) → ∃ C, X.mg c = some (.ref C) := fun c ⟨tb', s', r, e, k, hk⟩ => by
  cases e
  obtain ⟨Ch, eh, E⟩ := E.ex
  obtain ⟨C, hC, _⟩ := E c k hk
  exact ⟨C, hC⟩
end
end Vs

namespace Vs
open PySem PySem.Spec PyProof.Rows L2

/-! ### a slot's list and a new one joined: the items of both move -/
def catL : D → D → R D
  | .lst xs, .lst ys => if xs.length + ys.length ≤ sizeLine then .ok (.lst (xs ++ ys)) else .st
  | _, _ => .st
def catX (i : Nat) (f : Env → R D) (ρ : Env) : RX D := mvR [i] ((varE i ρ).bind fun d => (f ρ).bind (catL d)) ρ
section
variable {X : Cx} {W : WX} {own : List Nat} {b : Expr} {f : Env → R D} {x : Str} {p pos : Pos}
theorem vx_cat (i : Nat) (pv : PE X (.Name x p) (tVar i)) (hb : VG X W b f) (hi : i ∈ own := by decide) : VX X W own (.BinOp (.Name x p) .Add b pos) (catX i f) := ⟨peW (pe_op op_addA pv hb.pe) fun σ H Q ⟨B, ρ, ⟨S, F, bb, y⟩, o⟩ => by
  obtain ⟨d, hd, hv, o⟩ := varE_get (Out.bind (OutX.mv bb y o))
  obtain ⟨v, h1, h2, _⟩ := y.val i d hd
  refine ⟨v, h1, ρ, y.env, (Out.bind o).mono fun e _ q w H1 A1 s1 f1 n1 => ?_⟩
  unfold catL at q
  split at q
  · split at q
    · rename_i c
      have md : ∀ j ∈ [i], j ∈ own := fun j hj => by rw [List.mem_singleton.mp hj]; exact hi
      have g1 := (h2 hi).same s1
      obtain ⟨p1, vs1, B1, e1, e2, e3, k1, m1⟩ := g1.list
      obtain ⟨p2, vs2, B2, e4, e5, e6, k2, m2⟩ := f1.list
      have i1 : ∀ a ∈ B1, a ∈ F i := fun a ha => by rw [e2]; exact List.mem_cons_of_mem _ ha
      have i2 : ∀ a ∈ B2, H a = none := fun a ha => n1 a (by rw [e5]; exact List.mem_cons_of_mem _ ha)
      have fs := k1.app k2 fun a ha hb => by
        obtain ⟨_, o, z, _⟩ := y.out i hi a (i1 a ha)
        rw [i2 a hb] at z; cases z
      have nn : ∀ a ∈ B1 ++ B2, H a = none ∨ ∃ j ∈ [i], a ∈ F j := fun a ha => (List.mem_append.mp ha).elim (fun z => .inr ⟨i, List.mem_singleton.mpr rfl, i1 a z⟩) fun z => .inl (i2 a z)
      subst e1 e4
      refine .inr (.inr (.inl ⟨_, _, _, _, rfl, rfl, SqL.of e3, SqL.of e6, by rw [k1.length, k2.length]; exact c, fun p hp => ?_⟩))
      obtain ⟨y1, g1, g2⟩ := mvs_end y md s1 fs nn
      have s2 : Same H1 (upd H1 p (.lst (vs1 ++ vs2))) := new_same hp
      have fp : p ∉ B1 ++ B2 := fun z => by
        obtain ⟨o, e⟩ := fs.there p z
        rw [hp] at e; cases e
      refine q (.ref p) _ ⟨_, _, p :: (B1 ++ B2), bb.trans ((ext_s (H := H1) []).trans (ext_s [])), y1.grow s2 (A := []) (fun _ z => nomatch z), .lst upd_same (fs.same s2) fp, fun a ha => ?_, fun j hj a ha z => ?_⟩
      · rcases List.mem_cons.mp ha with z | z
        · subst z
          exact ext_none (y1.sub.free hp) (fun z => nomatch z) fun o' e => by rw [upd_same] at e; cases e; exact fun z => (show False from z)
        · obtain ⟨o, e1, e2⟩ := (fs.same s2).soft a z
          exact ext_none (g1 a z) (fun z => nomatch z) fun o' e => by rw [e1] at e; cases e; exact e2
      · rcases List.mem_cons.mp ha with w | w
        · subst w
          obtain ⟨_, o, e, _⟩ := y1.out j hj a z
          rw [hp] at e; cases e
        · exact g2 j hj a w z
    · exact q.elim
  · exact q.elim⟩
end
/-! ### x.m(..) over a table of classes: the call is looked at once -/
inductive PolyP (X : Cx) (mn : Str) (k' n : Nat) : List (Str × (List D → R D)) → Prop
  | nil : PolyP X mn k' n []
  | cons {c : Str} {ps : List Str} {k : Nat} {m : List D → R D} {l : List (Str × (List D → R D))} (C : CalM X.prog X.w X.K X.mg X.base c mn ps k m) (r : PolyP X mn k' n l) (hn : n + 1 = ps.length := by rfl) (hk : k ≤ k' := by decide) : PolyP X mn k' n ((c, m) :: l)
def polyT (mn : Str) (f : Env → R D) (fs : Env → R (List D)) : List (Str × (List D → R D)) → Env → R D
  | [] => fun _ => .st
  | (c, m) :: l => polyE c f (methF c mn m f fs) (polyT mn f fs l)
theorem vg_stuck {X : Cx} {W : WX} {e : Expr} : VG X W e (fun _ => .st) := ⟨peW (t := fun _ _ _ => False) ⟨fun pins s σ H Q I x => x.elim⟩ fun σ H Q ⟨ρ, re, q⟩ => q.elim⟩
theorem vg_polyT {X : Cx} {W : WX} {mn : Str} {k' n : Nat} {ms : List (Str × (List D → R D))} {o e : Expr} {es : List Expr} {f : Env → R D} {fs : Env → R (List D)} {pos apos : Pos} (P : PolyP X mn k' n ms) (hr : Room k' X.A) (tk : Takes X W) (ho : VE X W o f) (ha : VA X W (e :: es) fs) (hl : LenA fs n)
    (hst : starEach (e :: es) X.env = (false, eval e X.env) :: starEach es X.env := by rfl) (hpl : (backTo pos (starEach es X.env)).any (·.1) = false := by rfl) {pl : Sem Bool}
    (ht : eval (.Call (.Attribute o mn apos) (e :: es) [] pos) X.env = (do
      let ov ← eval o X.env
      standAt apos.atName
      let (f, first) ← holding [ov] (getMethod ov mn pl)
      callWith pos f first (backTo pos (starEach (e :: es) X.env)) (backToKw pos (keywordEach [] X.env))) := by rfl) :
    VG X W (.Call (.Attribute o mn apos) (e :: es) [] pos) (polyT mn f fs ms) := by
  induction P with
  | nil => exact vg_stuck
  | cons C r hn hk ih => exact vg_poly _ f (vg_meth C hr tk ho ha hl hn hk hst hpl ht) ih
end Vs

namespace Vs
open PySem PySem.Spec PyProof.Rows L2

/-! ### a, b, c = a name's list -/
def unlR (n : Nat) (d : D) : R (List D) := match d with
  | .lst ds => if ds.length = n ∧ immDs ds = true then .ok ds else .st
  | _ => .st
def unlS (is : List Nat) (f : Env → R D) (ρ : Env) : Sr := bindS ((f ρ).bind (unlR is.length)) ρ fun ds => .nx (putAll is ds ρ)
section
variable {X : Cx} {W : WX} {own : List Nat} {ol : Ol} {st : Stmt} {f : Env → R D}
theorem vs_unlist (is : List Nat) {n : Nat} (p : PS X st (tAsg (tF X.K X.mg W f) (gUnl X.K n (gNames is)))) (hn : n = is.length) (we : ∀ i ∈ ol.e, i ∈ own := by first | decide | (dsimp only; decide)) (hpn : ∀ i ∈ is, ol.P i = none := by first | exact (fun _ _ => rfl) | (intro i hi; simp only [List.mem_cons, List.not_mem_nil, or_false] at hi; (repeat' (rcases hi with rfl | hi)) <;> first | rfl | (subst hi; rfl))) : VS X W own (is.reverse ++ own) ol st (unlS is f) := ⟨psW p fun En σ H ⟨B, ρ, x, pn, q⟩ => by
  unfold unlS at q
  have q := SEnd.out x pn we q
  obtain ⟨S, F, b, y⟩ := x
  refine ⟨ρ, y.env, (Out.bind q).mono fun d _ q v H1 s1 r1 => ?_⟩
  unfold unlR at q
  cases d with
  | lst ds =>
    have q : Out X.mg W σ H (if ds.length = is.length ∧ immDs ds = true then R.ok ds else R.st) _ := q
    by_cases hl : ds.length = is.length ∧ immDs ds = true
    · rw [if_pos hl] at q
      cases r1 with
      | lst h r =>
        have y1 := y.grow s1 (A := []) (fun _ z => nomatch z)
        refine ⟨_, _, rfl, h, by rw [r.length, hl.1, hn], names_put y1 (r.fu hl.2) (fun a ha => nomatch ha) hl.1 fun σ' F' st' k' => q _ _ ⟨_, _, b.trans (ext_s []), st'⟩ (pn.keep fun j hj => k' j fun m => hj (hpn j m))⟩
    · rw [if_neg hl] at q; exact q.elim
  | _ => exact q.elim⟩
end
end Vs

namespace Vs
open PySem PySem.Spec PyProof.Rows L2

/-! ### function objects that the program makes -/
def fnP (f : Addr) (F : NdefX.NF) : Heap → Prop := fun h => ∃ (od : Option Addr) (sl : Array (Option Value)) (doc pm ctv : Value), h.get? f = some (⟨.type "function", od, .func (F.fd doc pm ctv), sl⟩ : Obj)
def lmP (f : Addr) (F : NdefX.NF) (e : Expr) : Heap → Prop := fun h => ∃ (od : Option Addr) (sl : Array (Option Value)) (pm ctv : Value), h.get? f = some (⟨.type "function", od, .func (PySem.W.kla_fn F.name F.qual F.params e F.scope F.cl pm (.ref F.c) ctv), sl⟩ : Obj)
abbrev cfN (f : Addr) (F : NdefX.NF) : CF := ⟨fnP f F, F.c, F.qual⟩
abbrev cfL (e : Expr) (f : Addr) (F : NdefX.NF) : CF := ⟨lmP f F e, F.c, F.qual⟩
theorem same_new {H : Hp} {a : Addr} {o : HO} (n : H a = none) : Same H (upd H a o) := Same.of fun b u e => (upd_ne (ne_of_none e n)).trans e
theorem same_tab {H : Hp} {P c : Addr} {ps : Array Value} {pos : Pos} {q : Str} (hP : H P = some (.tbl ps)) (nC : H c = none) (hq : nmL pos.line pos.col = q) :
    Same H (upd (upd H P (.tbl (ps ++ #[rawInt pos.line, rawInt pos.col, .ref c]))) c (LamX.CodeO c q)) := by
  have nPc : P ≠ c := ne_of_none hP nC
  refine ⟨fun b o e n => ?_, fun b ps' e => ?_⟩
  · rw [upd_ne (ne_of_none e nC), upd_ne fun z => by rw [z, hP] at e; cases e; exact n.elim]
    exact e
  · by_cases hb : b = P
    · subst hb
      rw [hP] at e
      cases e
      refine ⟨#[rawInt pos.line, rawInt pos.col, .ref c], by rw [upd_ne nPc, upd_same], (show TriplesOk (([] : List Value) ++ [rawInt pos.line, rawInt pos.col, .ref c]) from PySem.TriplesOk_snoc _ _ _ _ True.intro), fun p' cv hc => ?_⟩
      rcases NdefX.among_app2 [] True.intro hc with z | ⟨z, z1, z2⟩
      · simp [codeAmong] at z
      · exact ⟨c, z, by rw [← z1, ← z2, hq]; exact upd_same⟩
    · exact ⟨#[], by rw [upd_ne (ne_of_none e nC), upd_ne hb, e]; simp, MoreOk.nil _⟩
section
variable {X : Cx} {pins : List (Addr × Obj)} {σ : L2.St} {H : Hp} {s : Shared}
theorem inv_lm {F : NdefX.NF} {e : Expr} {o : Obj} {t' : Nat} {pm ctv : Value} (I : Inv X pins σ H s) (ho : o = { cls := .type "function", data := .func (PySem.W.kla_fn F.name F.qual F.params e F.scope F.cl pm (.ref F.c) ctv) }) :
    Inv X pins σ (upd H s.heap.objs.size (.ext (lmP s.heap.objs.size F e))) { s with heap := s.heap.push o, toks := t' } := by
  subst ho
  refine I.laid (a := s.heap.objs.size) (fun b u e => Heap.get?_push_of_some _ e) (Nat.le_refl _) ?_
  have e : (s.heap.push ({ cls := .type "function", data := .func (PySem.W.kla_fn F.name F.qual F.params e F.scope F.cl pm (.ref F.c) ctv) } : Obj)).get? s.heap.objs.size = some _ := Heap.get?_push_size _ rfl
  exact ⟨⟨_, _, pm, ctv, e⟩, ⟨_, e⟩, fun h1 h2 ⟨od, sl, p, t, z⟩ st => ⟨od, sl, p, t, st _ z⟩⟩
/-- a def within a def -/
theorem def_make {c P : Addr} {name : Str} {params : Arguments} {body : List Stmt} {scope : Scope} {pos : Pos} {E : Value → Shared → Prop} {Q : Value → Shared → Prop} (I : Inv X pins σ H s) (TB : LamX.TabB X.base X.mg c P) (hcode : X.env.code = .ref c)
    (hT : TabL H P) (hn : nmL pos.line pos.col = X.env.qual ++ name) (hfree : ∀ y ∈ scope.names, y.2 = .free → ∃ c, X.env.cells.lookup y.1 = some c)
    (h : ∀ (f c' : Addr) (H1 : Hp) (s' : Shared), Inv X pins σ H1 s' → Same H H1 → H1 f = some (.ext (fnP f ⟨name, X.env.qual ++ name, params, body, scope, cloFrom X.env.cells scope.names [], c'⟩)) → H1 c' = some (LamX.CodeO c' (X.env.qual ++ name)) → Q (.ref f) s') :
    wpAny (model X.prog X.w) X.A (makeFunction name (X.env.qual ++ name) params (.stmts body) scope X.env [] [] [] pos pos.line) Q E s := by
  obtain ⟨ps, hP, ht, ha⟩ := hT
  have bP : s.heap.BuiltinsAt X.mg P := TB.bm.keeps I.bk
  have hP' : s.heap.get? P = some { cls := .none, data := .fields ps } := I.hok P _ hP
  cases hc : codeAmong pos ps.toList with
  | none =>
    refine PySem.W.makeFunction_K (mg := X.mg) (c := c) (P := P) (ps := ps) (closure_ok hfree) I.ok.glob (I.mod.glob.keeps I.bk) hcode (TB.code.keeps I.bk) hP' ht hc TB.gP bP fun c' ctv doc h' tk hx hge hlt hrec htb => ?_
    obtain ⟨c2, oc, vs, t, e2, hoc, hd, hv⟩ := hrec
    cases e2
    have nC : H c' = none := I.hok.fresh hge
    have I1 := LamX.inv_table (t' := tk) (more := #[rawInt pos.line, rawInt pos.col, .ref c']) (h' := h') I hP (fun b o hb e => hx b o hb e) htb hge ⟨oc, vs, t, hoc, hd, hv⟩
    have S1 := same_tab (pos := pos) (q := X.env.qual ++ name) hP nC hn
    have nF := I1.hok.fresh (Nat.le_refl _)
    have I2 := NdefX.inv_fn (F := ⟨name, X.env.qual ++ name, params, body, scope, cloFrom X.env.cells scope.names [], c'⟩) (t' := tk) (doc := doc) (pm := (X.mg "__name__").getD .none) (ctv := ctv) I1 rfl
    exact h h'.objs.size c' _ _ I2 (S1.trans (same_new nF)) upd_same ((upd_ne (Nat.ne_of_lt hlt)).trans upd_same)
  | some cv =>
    obtain ⟨c', e, hco⟩ := ha pos cv hc
    subst e
    rw [hn] at hco
    refine PySem.W.makeFunction_hit (mg := X.mg) (c := c) (P := P) (ps := ps) (closure_ok hfree) I.ok.glob (I.mod.glob.keeps I.bk) hcode (TB.code.keeps I.bk) hP' ht hc bP fun ctv doc h' tk hx hsz => ?_
    have I1 : Inv X pins σ H { s with heap := h', toks := tk } := I.kept hx
    have nF : H h'.objs.size = none := I1.hok.fresh (Nat.le_refl _)
    have I2 := NdefX.inv_fn (F := ⟨name, X.env.qual ++ name, params, body, scope, cloFrom X.env.cells scope.names [], c'⟩) (t' := tk) (doc := doc) (pm := (X.mg "__name__").getD .none) (ctv := ctv) I1 rfl
    exact h h'.objs.size c' _ _ I2 (same_new nF) upd_same ((upd_ne (ne_of_none hco nF)).trans hco)
/-- a lambda -/
theorem lam_make {c P : Addr} {params : Arguments} {body : Expr} {scope : Scope} {pos : Pos} {E : Value → Shared → Prop} {Q : Value → Shared → Prop} (I : Inv X pins σ H s) (TB : LamX.TabB X.base X.mg c P) (hcode : X.env.code = .ref c)
    (hT : TabL H P) (hn : nmL pos.line pos.col = X.env.qual ++ "<lambda>") (hdef : defaultsOf params X.env = ([], [])) (hfree : ∀ y ∈ scope.names, y.2 = .free → ∃ c, X.env.cells.lookup y.1 = some c)
    (h : ∀ (f c' : Addr) (H1 : Hp) (s' : Shared), Inv X pins σ H1 s' → Same H H1 → H1 f = some (.ext (lmP f ⟨"<lambda>", X.env.qual ++ "<lambda>", params, [], scope, cloFrom X.env.cells scope.names [], c'⟩ body)) → H1 c' = some (LamX.CodeO c' (X.env.qual ++ "<lambda>")) → Q (.ref f) s') :
    wpAny (model X.prog X.w) X.A (eval (.Lambda params body scope pos) X.env) Q E s := by
  refine PySem.W.kla_eval hdef ?_
  obtain ⟨ps, hP, ht, ha⟩ := hT
  have bP : s.heap.BuiltinsAt X.mg P := TB.bm.keeps I.bk
  have hP' : s.heap.get? P = some { cls := .none, data := .fields ps } := I.hok P _ hP
  cases hc : codeAmong pos ps.toList with
  | none =>
    refine PySem.W.kla_makeFunction (mg := X.mg) (c := c) (P := P) (ps := ps) (closure_ok hfree) I.ok.glob (I.mod.glob.keeps I.bk) hcode (TB.code.keeps I.bk) hP' ht hc TB.gP bP fun c' ctv h' tk hx hge hlt hrec htb => ?_
    obtain ⟨c2, oc, vs, t, e2, hoc, hd, hv⟩ := hrec
    cases e2
    have nC : H c' = none := I.hok.fresh hge
    have I1 := LamX.inv_table (t' := tk) (more := #[rawInt pos.line, rawInt pos.col, .ref c']) (h' := h') I hP (fun b o hb e => hx b o hb e) htb hge ⟨oc, vs, t, hoc, hd, hv⟩
    have S1 := same_tab (pos := pos) (q := X.env.qual ++ "<lambda>") hP nC hn
    have nF := I1.hok.fresh (Nat.le_refl _)
    have I2 := inv_lm (F := ⟨"<lambda>", X.env.qual ++ "<lambda>", params, [], scope, cloFrom X.env.cells scope.names [], c'⟩) (e := body) (t' := tk) (pm := (X.mg "__name__").getD .none) (ctv := ctv) I1 rfl
    exact h h'.objs.size c' _ _ I2 (S1.trans (same_new nF)) upd_same ((upd_ne (Nat.ne_of_lt hlt)).trans upd_same)
  | some cv =>
    obtain ⟨c', e, hco⟩ := ha pos cv hc
    subst e
    rw [hn] at hco
    refine PySem.W.kla_makeFunctionHit (mg := X.mg) (c := c) (P := P) (ps := ps) (closure_ok hfree) I.ok.glob (I.mod.glob.keeps I.bk) hcode (TB.code.keeps I.bk) hP' ht hc bP fun ctv h' tk hx hsz => ?_
    have I1 : Inv X pins σ H { s with heap := h', toks := tk } := I.kept hx
    have nF : H h'.objs.size = none := I1.hok.fresh (Nat.le_refl _)
    have I2 := inv_lm (F := ⟨"<lambda>", X.env.qual ++ "<lambda>", params, [], scope, cloFrom X.env.cells scope.names [], c'⟩) (e := body) (t' := tk) (pm := (X.mg "__name__").getD .none) (ctv := ctv) I1 rfl
    exact h h'.objs.size c' _ _ I2 (same_new nF) upd_same ((upd_ne (ne_of_none hco nF)).trans hco)
end
/-! ### what a made function promises -/
/-- cl: its cells; fr: the names captured; sp: told of the arguments and of what its cells hold -/
structure COk (P : Program) (w : World) (K : PySem.W.Frag) (mg : Str → Option Value) (base : Heap) (k : Nat) (f : Addr) (F : CF) (cl : List (Str × Addr)) (n : Nat) (fr : List Str) (sp : Sp) : Prop where
  fnat : ∀ h : Heap, F.p h → PySem.W.FnAt f h
  run : ∀ (A : Around) (outer : List PySem.Env) (s : Shared) (H : Hp) (us : List Value) (vs ws : List V) (Q : VK) (E : XK), Room k A → Env0 P w K mg base A outer s H → H f = some (.ext F.p) → H F.c = some (LamX.CodeO F.c F.q) → vs.length = n →
    NdefX.CellsAt cl fr (ws.map some) s.heap H → Vals vs us → sp (vs ++ ws) H Q E → codeAny (model P w) A (.call (.ref f) ⟨us, []⟩) (CR (L2.CX P w) outer P w H s Q E) s
theorem COk.mono {P : Program} {w : World} {K : PySem.W.Frag} {mg : Str → Option Value} {base : Heap} {j k : Nat} {f : Addr} {F : CF} {cl : List (Str × Addr)} {n : Nat} {fr : List Str} {sp : Sp} (C : COk P w K mg base j f F cl n fr sp) (h : j ≤ k) : COk P w K mg base k f F cl n fr sp :=
  ⟨C.fnat, fun A outer s H us vs ws Q E hr => C.run A outer s H us vs ws Q E (hr.mono h)⟩
theorem startF_eq {N : List Str} {vs ws : List V} : NdefX.startF N vs (ws.map some) = L2.start N (vs ++ ws) := by
  unfold NdefX.startF L2.start
  rw [List.map_append, List.append_assoc, List.length_append, List.length_map, Nat.sub_sub]
section
variable {P : Program} {w : World} {K : PySem.W.Frag} {mg : Str → Option Value} {base : Heap} {N : List Str} {J G own' : List Nat} {vs : List V} {b : Env → Sr} {H : Hp} {Q : VK} {E : XK} {n : Nat}
abbrev olC (J G : List Nat) (vs : List V) : Ol := { l := [], r := J, e := J, P := pinV G vs }
/-- a body whose slots J are lent keeps the promise -/
theorem lent_core (hl : vs.length = n) (hJ : ∀ i ∈ J, i ∈ G) (w' : ∀ i ∈ J, i ∈ own') {S0 : Hp} {F0 : Nat → List Addr} {ds : List Vs.D} (y : Stx J K S0 F0 (ds.map some) (vs.map some) H)
    (h : match runL N.length n J b ds with
      | .ok d es => ∀ v H', StaV J S0 K es (vs.map some) H' v d → Q v H'
      | .ex c es => ∃ C, mg c = some (.ref C) ∧ ∀ H', Sta J S0 K es (vs.map some) H' → E (.ref C) none H'
      | .st => False) : tS K mg (fun cls d _ H => E cls d H) J own' (olC J G vs) b { nx := fun _ H' => Q .non H', rt := Q } (L2.start N vs) H := by
  have hdl : ds.length = vs.length := by have := y.len; simpa using this
  have hP : ∀ i ∈ J, pinV G vs i = vs[i]? := fun i m => by unfold pinV; rw [if_pos (hJ i m)]
  have pn0 : Pin (pinV G vs) (L2.start N vs) := fun i v e => by
    unfold pinV at e
    split at e
    · unfold L2.start
      rw [List.getElem?_append_left (by rw [List.length_map]; exact (List.getElem?_eq_some_iff.mp e).1), List.getElem?_map, e]
      rfl
    · cases e
  refine ⟨S0, ds.map some ++ List.replicate (N.length - ds.length) none, ⟨S0, F0, Same.refl _, by unfold L2.start; rw [hdl]; exact y.long _⟩, pn0, ?_⟩
  unfold runL at h
  rw [← hl] at h
  generalize b (ds.map some ++ List.replicate (N.length - ds.length) none) = q at h
  cases q with
  | st => exact h.elim
  | nx ρ => exact fun σ H' y pn => h .non H' (((y.weak w').cut pn hP).staV (Same.refl _) .non (fun _ z => nomatch z))
  | rt d => exact h.elim
  | rb d ρ => exact fun v σ H' y pn => h v H' (y.cut pn hP)
  | bk ρ => exact h.elim
  | ct ρ => exact h.elim
  | ex c ρ =>
    obtain ⟨C, h1, h2⟩ := h
    exact ⟨C, h1, fun σ H' y pn => h2 H' (y.cut pn hP)⟩
/-- a def within a def, by its body -/
theorem cok_def {F : NdefX.NF} {f : Addr} {k : Nat} {ps fr : List Str} (S : NdefX.NScope N ps fr F.scope) (w' : ∀ i ∈ J, i ∈ own')
    (hb : ∀ (doc pm ctv : Value) (us : List Value), us.length = ps.length → bindArgs (F.fd doc pm ctv) ⟨us, []⟩ = pure (ps.zip us))
    (hbody : ∀ (vs : List V) (A : Around) (outer : List PySem.Env) (s : Shared) (H : Hp) (E : XK), Room k (A.deeper (NdefX.envF F f s.heap.objs.size)) →
      VSs (NdefX.ncx (L2.CX P w) P w K mg base N F f A outer s H E) (fun cls d _ H => E cls d H) J own' (olC J J vs) F.body b) :
    COk P w K mg base (k + 1) f (cfN f F) F.cl ps.length fr (spB K mg (ps.length + fr.length) J (runL N.length (ps.length + fr.length) J b)) := by
  have NO : NdefX.NOk P w K mg base (L2.CX P w) (k + 1) f F ps fr fun ws vs H Q E => vs.length = ps.length ∧ ∃ us, ws = us.map some ∧ spB K mg (ps.length + fr.length) J (runL N.length (ps.length + fr.length) J b) (vs ++ us) H Q E := by
    refine NdefX.nok_of S hb (fun ws vs H Q E h => h.1) fun A outer s H vs ws Q E hr hf hc hw h => ?_
    obtain ⟨hl, us, e, hl2, S0, F0, ds, y, h⟩ := h
    subst e
    refine ⟨_, (hbody (vs ++ us) A outer s H E hr).ps, ?_⟩
    rw [startF_eq]
    exact lent_core hl2 (fun i m => m) w' y h
  exact ⟨fun h ⟨od, sl, doc, pm, ctv, ho⟩ => ⟨_, od, _, sl, ho⟩, fun A outer s H us vs ws Q E hr e0 hf hc hn C r q => NO.run A outer s H us vs (ws.map some) Q E hr e0 hf hc C r ⟨hn, ws, rfl, q⟩⟩
/-- a lambda, by its body -/
theorem cok_lam {F : NdefX.NF} {f : Addr} {k : Nat} {ps fr : List Str} {e : Expr} {g : Env → RX D} (S : NdefX.NScope N ps fr F.scope)
    (hb : ∀ (pm ctv : Value) (us : List Value), us.length = ps.length → bindArgs (PySem.W.kla_fn F.name F.qual F.params e F.scope F.cl pm (.ref F.c) ctv) ⟨us, []⟩ = pure (ps.zip us))
    (hbody : ∀ (A : Around) (outer : List PySem.Env) (s : Shared) (H : Hp) (E : XK), Room k (A.deeper (NdefX.envF F f s.heap.objs.size)) →
      VX (NdefX.ncx (L2.CX P w) P w K mg base N F f A outer s H E) (fun cls d _ H => E cls d H) J e g) :
    COk P w K mg base (k + 1) f (cfL e f F) F.cl ps.length fr (spB K mg (ps.length + fr.length) J (runL N.length (ps.length + fr.length) J (retXB g))) := by
  refine ⟨fun h ⟨od, sl, pm, ctv, ho⟩ => ⟨_, od, _, sl, ho⟩, fun A outer s H us vs ws Q E hr e0 hf hc hn C r q => ?_⟩
  have lim : s.heap.NoLimit := e0.mod.nolimit.keeps fun b o e => (e0.bs b o e).1
  obtain ⟨⟨od, sl, pm, ctv, ho⟩, _, _⟩ := e0.hok f _ hf
  obtain ⟨⟨oc, cvs, t, hoc, hdc, hvc⟩, _, _⟩ := e0.hok F.c _ hc
  refine PySem.W.kla_callFunE hr.depth ho rfl S.co S.gen rfl ⟨F.c, oc, cvs, t, rfl, hoc, hdc, hvc⟩ ?_
  rw [hb pm ctv us (by rw [← r.length]; exact hn)]
  refine wpAny_pure (wpAny_newFunctionEnv S.nocell (fun ⟨n, _⟩ hy => S.par n (List.of_mem_zip hy).1) (fun h₁ hns hsb => ⟨lim.fresh _ hsb, ?_⟩) S.kind)
  show codeAny _ _ (.expr e (NdefX.envF F f s.heap.objs.size)) _ _
  have kp : ∀ b o, s.heap.get? b = some o → h₁.get? b = some o := fun b o e => hsb.extBut b o (Nat.ne_of_lt (Heap.lt_size e)) (Heap.get?_push_of_some _ e)
  obtain ⟨hl2, S0, F0, ds, y, h⟩ := q
  have I : Inv (NdefX.ncx (L2.CX P w) P w K mg base N F f A outer s H E) [] (NdefX.startF N vs (ws.map some)) H { s with heap := h₁, toks := s.toks + (ps.zip us).length } := NdefX.inv_startN S hr.hd e0 hn r C hns kp
  rw [startF_eq] at I
  obtain ⟨B, ρ, x, pn, q⟩ := lent_core (mg := mg) (N := N) (E := E) (Q := Q) hl2 (fun i m => m) (own' := J) (fun i m => m) y h
  refine PySem.W.kla_codeExpr (wpAny_mono ((hbody A outer s H E (hr.deeper _)).pe.run [] _ _ H (fun v H' => Q v H') I ⟨B, ρ, x, (SEnd.outX pn (fun i m => m) q).mono fun d ρ' _ q v H' z => q v _ H' z pn⟩) (fun v s' hq => ?_) fun e s' hq => hq)
  obtain ⟨w', H', J', rv, q⟩ := hq
  exact ⟨w', H', J'.os, J'.bare, J'.base, J'.hok, rv, q⟩
end
/-! ### what was captured, as arguments -/
/-- js: the slots of the captured names; true: lent -/
def capsA (js : List (Nat × Bool)) (ρ : Env) : Option (List Arg) := match js with
  | [] => some []
  | (j, t) :: js => match ρ[j]?, capsA js ρ with
    | some (some d), some as => if t = true then some (.sl j :: as) else if immD d = true then some (.vl d :: as) else none
    | _, _ => none
/-- a call with what was captured behind the arguments as -/
def capR (n : Nat) (J : List Nat) (m : List D → RX D) (js : List (Nat × Bool)) (as : List Arg) (ρ : Env) : RX D := match capsA js ρ with
  | some bs => (match argsD ρ (as ++ bs) with
    | some ds => if (as ++ bs).length = n ∧ okA J (as ++ bs) ds then (match m ds with
      | .ok d es => .ok d (backL J (as ++ bs) es 0 ρ)
      | .ex c es => .ex c (backL J (as ++ bs) es 0 ρ)
      | .st => .st) else .st
    | none => .st)
  | none => .st
def capX (n : Nat) (J : List Nat) (m : List D → RX D) (js : List (Nat × Bool)) (fs : Env → RX (List Arg)) (ρ : Env) : RX D := (fs ρ).bind (capR n J m js)
section
variable {K : PySem.W.Frag} {own : List Nat} {S H : Hp} {F : Nat → List Addr} {ρ : Env} {σ : L2.St}
theorem capsA_ok (st : Stx own K S F ρ σ H) : ∀ {js : List (Nat × Bool)} {bs : List Arg}, (∀ p ∈ js, p.2 = true → p.1 ∈ own) → capsA js ρ = some bs → ∃ ws : List V, js.map (fun p => NdefX.slotAt σ p.1) = ws.map some ∧ AOk K own σ H ws bs []
  | [], bs, _, h => by cases h; exact ⟨[], rfl, .nil⟩
  | (j, t) :: js, bs, hj, h => by
    unfold capsA at h
    split at h
    · rename_i d as e1 e2
      obtain ⟨ws, h1, h2⟩ := capsA_ok st (fun p hp => hj p (List.mem_cons_of_mem _ hp)) e2
      obtain ⟨v, g1, g2, g3⟩ := st.val j d e1
      refine ⟨v :: ws, by rw [List.map_cons, List.map_cons, h1, NdefX.slotAt_of g1], ?_⟩
      split at h
      · rename_i ht
        cases h
        exact .sl (hj (j, t) List.mem_cons_self ht) g1 h2
      · split at h
        · rename_i hm
          cases h
          have fu : Fu K H v d [] := by
            by_cases m : j ∈ own
            · exact (g2 m).rd.fu hm
            · exact ((g3 m).mono st.sub).fu hm
          exact AOk.vl (A1 := []) (A := []) fu h2 (fun _ z => nomatch z)
        · cases h
    · cases h
theorem AOk.app {vs ws : List V} {as bs : List Arg} {A : List Addr} (h : AOk K own σ H vs as A) (g : AOk K own σ H ws bs []) : AOk K own σ H (vs ++ ws) (as ++ bs) A := by
  induction h with
  | nil => exact g
  | sl h1 h2 _ ih => exact .sl h1 h2 ih
  | vl f _ m ih => exact .vl f ih m
end
/-! ### a def that is given a made function, and calls it -/
/-- as spB; z stands at the place i -/
def spC (K : PySem.W.Frag) (mg : Str → Option Value) (n : Nat) (J : List Nat) (i : Nat) (z : D) (m : List D → RX D) : Sp := fun vs H Q E => vs.length = n ∧ ∃ S F ds, ds[i]? = some z ∧ Stx J K S F (ds.map some) (vs.map some) H ∧ match m ds with
  | .ok d es => ∀ v H', StaV J S K es (vs.map some) H' v d → Q v H'
  | .ex c es => ∃ C, mg c = some (.ref C) ∧ ∀ H', Sta J S K es (vs.map some) H' → E (.ref C) none H'
  | .st => False
/-- its parameter i is a function of one argument, which captured nf things: J the places of those that are lent, g what it means, j its depth -/
def CalC (P : Program) (w : World) (K : PySem.W.Frag) (mg : Str → Option Value) (base : Heap) (x : Str) (ps : List Str) (i : Nat) (fr : List Str) (J : List Nat) (k : Nat) (j : Nat) (J' : List Nat) (g : List D → RX D) (m : List D → RX D) : Prop :=
  ∃ f fd, mg x = some (.ref f) ∧ PySem.W.keepIn K (.ref f) = true ∧ Binds K fd ps [] ∧ ∀ (f0 : Addr) (F0 : CF) (cl : List (Str × Addr)), COk P w K mg base j f0 F0 cl 1 fr (spB K mg (1 + fr.length) J' g) →
    ∀ (A : Around) (outer : List PySem.Env) (s : Shared) (H : Hp) (args : Args) (us : List Value) (vs ws : List V) (Q : VK) (E : XK), Room k A → Env0 P w K mg base A outer s H → BindsTo s fd args (ps.zip us) → vs.length = ps.length → NdefX.CellsAt cl fr (ws.map some) s.heap H → Vals vs us →
      spC K mg (ps.length + fr.length) J i (.cl f0 F0) m (vs ++ ws) H Q E → codeAny (model P w) A (.call (.ref f) args) (CR (L2.CX P w) outer P w H s Q E) s
theorem Inv.ghost {X : Cx} {pins : List (Addr × Obj)} {σ σ' : L2.St} {H : Hp} {s : Shared} (I : Inv X pins σ H s) (hl : σ'.length = σ.length) (hw : ∀ (i : Nat) (x : Str) (v : V), X.N[i]? = some x → Vis X.env.scope x → σ'[i]? = some (some v) → σ[i]? = some (some v)) : Inv X pins σ' H s :=
  ⟨I.ok, I.os, I.bare, I.base, let ⟨m, hn, hq⟩ := I.loc; ⟨m, hn, fun i x v e1 e2 e3 => hq i x v e1 (hw i x v e1 e3 e2) e3⟩, I.cell, I.free, I.freeC, I.pin, I.hok, hl.trans I.len⟩
section
variable {P : Program} {w : World} {K : PySem.W.Frag} {mg : Str → Option Value} {base : Heap} {N : List Str} {J G own' : List Nat} {b : D → Env → Sr}
theorem calC_mk {x : Str} {st : Stmt} {k j i : Nat} {ps fr : List Str} {J' : List Nat} {g : List D → RX D} (F : Def K mg x st) (S : FnScope N ps (defScope st)) (hJ : ∀ i ∈ J, i ∈ G) (w' : ∀ i ∈ J, i ∈ own')
    (hN : N.length = ps.length + fr.length + (N.length - ps.length - fr.length)) (hg : ∀ i y, ps.length ≤ i → i < ps.length + fr.length → N[i]? = some y → ¬ Vis (defScope st) y)
    (hb : ∀ (kV doc pm : Value) (an : Option Addr) (cdv ct : Value) (us : List Value), us.length = ps.length → bindArgs (PySem.W.fnOf x x (defArgs st) (defBody st) (defScope st) .none kV doc pm an cdv ct) ⟨us, []⟩ = pure (ps.zip us))
    (hbody : ∀ (f0 : Addr) (F0 : CF) (cl : List (Str × Addr)), COk P w K mg base j f0 F0 cl 1 fr (spB K mg (1 + fr.length) J' g) → ∀ (vs ws : List V) (f : Addr) (cdv : Value) (A : Around) (outer : List PySem.Env) (s : Shared) (H : Hp) (E : XK), vs.length = ps.length → NdefX.CellsAt cl fr (ws.map some) s.heap H → Room k (A.deeper (envOfC x (defScope st) s.heap.objs.size f cdv)) →
      VSs (cxOf (L2.CX P w) P w K mg base N x (defScope st) f cdv A outer s H E) (fun cls d _ H => E cls d H) J own' (olC J G (vs ++ ws)) (defBody st) (b (.cl f0 F0))) :
    CalC P w K mg base x ps i fr J (k + 1) j J' g fun ds => runL N.length (ps.length + fr.length) J (b (ds.getD i .non)) ds := by
  obtain ⟨f, fd, F, h⟩ := F
  refine ⟨f, fd, h, F.kp, F.binds hb, fun f0 F0 cl C A outer s H args us vs ws Q E hr e0 hbi hl C0 r q => ?_⟩
  obtain ⟨oc, od, kV, doc, pm, an, cdv, ct, osl, rfl, lk, hcd⟩ := F.ex
  have KX : K.In s.heap := e0.mod.kin.keeps fun b o e => (e0.bs b o e).1
  have lim : s.heap.NoLimit := e0.mod.nolimit.keeps fun b o e => (e0.bs b o e).1
  have hkind : ∀ y ∈ ps.zip us, (defScope st).names.lookup y.1 = some .local ∨ ((defScope st).names.lookup y.1 = some .cell ∧ ((cellsFrom (s.heap.objs.size + 1) (defScope st).names []).lookup y.1).isSome = true) := fun ⟨n, v⟩ hy => by
    rcases S.par n (List.of_mem_zip hy).1 with q | q
    · exact .inl q
    · exact .inr ⟨q, PySem.W.cellsFrom_some _ _ _ (.inl q)⟩
  refine codeAny_call_function hr.depth (KX _ _ lk) rfl S.co S.gen rfl (PySem.W.codeRec_of KX hcd) (hbi _ _ _ _ ?_)
  refine wpAny_newFunctionEnv_cells S.kind hkind fun env he s1 x1 => ?_
  subst he
  refine ⟨lim.keeps x1.toInCall.keep, codeAny_func ?_⟩
  obtain ⟨hl2, S0, F0', ds, hz, y, h⟩ := q
  have clen : ws.length = fr.length := by simpa using C0.len
  have I0 : Inv (cxOf (L2.CX P w) P w K mg base N x (defScope st) f cdv A outer s H E) [] (L2.start N vs) H s1 := inv_start S hr.hd e0 hl r x1
  have I : Inv (cxOf (L2.CX P w) P w K mg base N x (defScope st) f cdv A outer s H E) [] (L2.start N (vs ++ ws)) H s1 := by
    refine Inv.ghost I0 (by unfold L2.start; simp; omega) fun i y v e1 e2 e3 => ?_
    have e1 : N[i]? = some y := e1
    unfold L2.start at e3 ⊢
    by_cases c : i < vs.length
    · rw [List.getElem?_append_left (by rw [List.length_map, List.length_append]; omega), List.map_append, List.getElem?_append_left (by rw [List.length_map]; exact c)] at e3
      rw [List.getElem?_append_left (by rw [List.length_map]; exact c)]
      exact e3
    · by_cases c2 : i < vs.length + ws.length
      · exact absurd e2 (hg i y (by omega) (by omega) e1)
      · rw [List.getElem?_append_right (by rw [List.length_map, List.length_append]; omega), List.getElem?_replicate] at e3
        split at e3 <;> cases e3
  have hv := hbody f0 F0 cl C vs ws f cdv A outer s H E hl C0 (hr.deeper _)
  have hzz : ds.getD i .non = .cl f0 F0 := by rw [List.getD_eq_getElem?_getD, hz]; rfl
  simp only [hzz] at h
  refine wpAny_mono (hv.ps.run [] s1 _ H _ I (lent_core hl2 hJ w' y h)) (fun fl s' hs => ?_) fun e s' hs => hs
  have fin : ∀ {σ' : L2.St} {H' : Hp} {v : V} {u : Value}, Inv (cxOf (L2.CX P w) P w K mg base N x (defScope st) f cdv A outer s H E) [] σ' H' s' → L2.RelV v u → Q v H' → CE outer P w H s Q u s' :=
    fun {σ' H' v u} J rv q => ⟨v, H', J.os, J.bare, J.base, J.hok, rv, q⟩
  cases fl with
  | ret u =>
    obtain ⟨v, σ', H', J, rv, q⟩ := hs
    exact fin J rv q
  | next =>
    obtain ⟨σ', H', J, q⟩ := hs
    exact fin (v := V.non) (u := Value.none) J rfl q
  | brk =>
    obtain ⟨_, _, _, q⟩ := hs
    exact False.elim q
  | cont =>
    obtain ⟨_, _, _, q⟩ := hs
    exact False.elim q
end
/-! ### the calls -/
open Classical in
/-- the slot i holds z -/
noncomputable def holdC (z : D) (i : Nat) (f : Env → RX D) (ρ : Env) : RX D := if ρ[i]? = some (some z) then f ρ else .st
theorem holdC_eq {z : D} {i : Nat} {f : Env → RX D} {ρ : Env} (h : ρ[i]? = some (some z)) : holdC z i f ρ = f ρ := by unfold holdC; rw [if_pos h]
section
variable {X : Cx} {W : WX} {own J J' : List Nat} {e : Expr} {es : List Expr} {fs : Env → RX (List Arg)} {x : Str} {p pos : Pos} {k k' i n : Nat} {f0 : Addr} {F0 : CF} {cl : List (Str × Addr)} {fr : List Str} {js : List (Nat × Bool)} {g : List D → RX D} {Pn : Nat → Option V}
theorem cap_core {B H : Hp} {σ : L2.St} {ρ : Env} {vs : List V} {as : List Arg} {Q : VK} {K : PySem.W.Frag} {mg : Str → Option Value} (hj : ∀ p ∈ js, p.2 = true → p.1 ∈ own) (h : StaA own B K ρ σ H vs as)
    (o : OutX K mg W own B σ (capR n J g js as ρ) fun d ρ' => ∀ v H', StaV own B K ρ' σ H' v d → Q v H') : ∃ ws : List V, js.map (fun p => NdefX.slotAt σ p.1) = ws.map some ∧ spB K mg n J g (vs ++ ws) H Q (WE W σ) := by
  unfold capR at o
  cases hc : capsA js ρ with
  | none => rw [hc] at o; exact o.elim
  | some bs =>
    rw [hc] at o
    obtain ⟨S, F, A, b, y, ao, n1, n2⟩ := h
    obtain ⟨ws, h1, h2⟩ := capsA_ok y hj hc
    exact ⟨ws, h1, lend_core ⟨S, F, A, b, y, ao.app h2, n1, n2⟩ o⟩
theorem pe_callM (C : COk X.prog X.w X.K X.mg X.base k f0 F0 cl 1 fr (spB X.K X.mg n J g)) (hr : Room k' X.A) (hk : k ≤ k') (tk : Takes X W) (hn : n = 1 + fr.length) (hN : X.N[i]? = some x) (hv : Vis X.env.scope x) (ha : VXA X W own (e :: es) fs) (hj : ∀ p ∈ js, p.2 = true → p.1 ∈ own)
    (hc : ∀ pins σ H s, Inv X pins σ H s → Pin Pn σ → NdefX.CellsAt cl fr (js.map fun p => NdefX.slotAt σ p.1) s.heap H)
    (hd : (x == ("__debug__" : Str)) = false := by decide) (hcd : (x == ("__classdict__" : Str)) = false := by decide)
    (he : starEach (e :: es) X.env = (false, eval e X.env) :: starEach es X.env := by rfl) (hpl : (backTo pos (starEach es X.env)).any (·.1) = false := by rfl) :
    PE X (.Call (.Name x p) (e :: es) [] pos) fun σ H Q => ∃ B ρ, Sta own B X.K ρ σ H ∧ Pin Pn σ ∧ OutX X.K X.mg W own B σ (holdC (.cl f0 F0) i (capX n J g js fs) ρ) fun d ρ' => ∀ v H', StaV own B X.K ρ' σ H' v d → Q v H' := by
  refine ⟨fun pins s σ H Q I ⟨B, ρ, st, pn, o⟩ => ?_⟩
  unfold holdC at o
  split at o
  rotate_left
  · exact o.elim
  rename_i hz
  obtain ⟨S, F, b, y⟩ := st
  obtain ⟨v0, e1, e2⟩ := y.env.val i _ hz
  cases e2 with
  | cl h1 h2 =>
  have st' : Sta own S X.K ρ σ H := ⟨S, F, Same.refl _, y⟩
  have s1 : S f0 = some (.ext F0.p) := y.cl _ _ h1 True.intro True.intro
  have s2 : S F0.c = some (LamX.CodeO F0.c F0.q) := y.cl _ (LamX.CodeO F0.c F0.q) h2 True.intro True.intro
  have o := OutX.bind (o.up b)
  refine wpAny_Call_Name_kw (thn ((pe_var (pos := p) hN hv hd hcd).run pins s σ H (fun v H1 => v = .ref f0 ∧ H1 = H) I ⟨.ref f0, e1, rfl, rfl⟩) fun u sx ⟨v, H1, I1, r1, q1⟩ => ?_)
  obtain ⟨ev, eH⟩ := q1
  subst ev
  rw [eH] at I1
  obtain rfl : u = Value.ref f0 := r1
  refine PySem.W.callWith_F (first := []) (C.fnat _ (I1.hok _ _ h1).1) (thn (ha.pa.run pos pins sx σ H (fun vs H' => ∃ as ρ', StaA own S X.K ρ' σ H' vs as ∧ OutX X.K X.mg W own S σ (capR n J g js as ρ') fun d ρ' => ∀ v H', StaV own B X.K ρ' σ H' v d → Q v H') I1 ⟨S, ρ, st', o.mono fun as ρ' _ q vs H' z => ⟨as, ρ', z, q⟩⟩) fun us s2' ⟨vs, H2, I2, r, as, ρ', z, q⟩ => ?_) he hpl
  have sH : Same S H2 := by
    obtain ⟨S', F', A', b', y', _⟩ := z
    exact b'.trans y'.sub
  have g1 : H2 f0 = some (.ext F0.p) := sH.mv s1
  have g2 : H2 F0.c = some (LamX.CodeO F0.c F0.q) := sH.mv (o := LamX.CodeO F0.c F0.q) s2
  refine ⟨C.fnat _ (I2.hok _ _ g1).1, ?_⟩
  obtain ⟨ws, hw, hs⟩ := cap_core (Q := Q) hj z (q.mono fun d ρ' _ q v H' z => q v H' (z.down b))
  have C1 := hc pins σ H2 s2' I2 pn
  rw [hw] at C1
  have hl : vs.length = 1 := by
    have h1 := hs.1
    have h2 := C1.len
    rw [List.length_append] at h1
    rw [List.length_map] at h2
    omega
  refine wpAny_call (codeAny_mono (C.run X.A X.stack s2' H2 us vs ws Q (WE W σ) (hr.mono hk) I2.env0 g1 g2 hl C1 r hs) fun r' s' hq => ?_)
  cases r' with
  | error e => exact passAt tk σ pins H2 s2' e s' I2 hq
  | ok fl =>
    cases fl with
    | ret u => exact I2.after hq
    | next => exact False.elim hq
    | brk => exact False.elim hq
    | cont => exact False.elim hq
end
theorem cells_later {X : Cx} {pins : List (Addr × Obj)} {σ : L2.St} {H : Hp} {s : Shared} {cl : List (Str × Addr)} {fr : List Str} {ws : List (Option V)} (C : NdefX.CellsAt cl fr ws X.s_0.heap X.H_0) (hx : X.ex = []) (I : Inv X pins σ H s) : NdefX.CellsAt cl fr ws s.heap H := by
  have nx : ∀ c, c ∉ X.ex := fun c z => by rw [hx] at z; cases z
  have kp : ∀ y c, cl.lookup y = some c → ∀ v, X.s_0.heap.IsCell c v → s.heap.IsCell c v := fun y c e v ⟨o, ho, hd⟩ => by
    obtain ⟨sl, q⟩ := I.base.any ho (C.all y c e).1 (nx c)
    exact ⟨_, q, hd⟩
  refine ⟨C.len, fun y c e => ?_, C.inj, fun i y e => ?_⟩
  · obtain ⟨n, v, z⟩ := C.all y c e
    refine ⟨?_, v, kp y c e v z⟩
    obtain ⟨o, ho, _⟩ := z
    exact I.base.free c o ho n (nx c)
  · obtain ⟨c, hc, hv⟩ := C.has i y e
    refine ⟨c, hc, fun v ev => ?_⟩
    obtain ⟨u, r, z⟩ := hv v ev
    exact ⟨u, r, kp y c hc _ z⟩
theorem pin_slots {P : Nat → Option V} {σ : L2.St} (pn : Pin P σ) : ∀ {js : List (Nat × Bool)} {ws : List V}, js.map (fun p => P p.1) = ws.map some → js.map (fun p => NdefX.slotAt σ p.1) = ws.map some
  | [], [], _ => rfl
  | [], _ :: _, h => by cases h
  | _ :: _, [], h => by cases h
  | p :: js, v :: ws, h => by
    rw [List.map_cons, List.map_cons] at h
    injection h with h1 h2
    rw [List.map_cons, List.map_cons, pin_slots pn h2, NdefX.slotAt_of (pn p.1 v h1)]
section
variable {X : Cx} {W : WX} {own own' J : List Nat} {ol : Ol} {e : Expr} {es : List Expr} {fs : Env → RX (List Arg)} {x : Str} {p pos pos' : Pos} {k k' i n : Nat} {f0 : Addr} {F0 : CF} {cl : List (Str × Addr)} {fr : List Str} {js : List (Nat × Bool)} {g : List D → RX D} {ws : List V} {s1 s2 : List Stmt} {a b : Env → Sr}
/-- if f(..): f the function that was given -/
theorem vs_ifC (i : Nat) (js : List (Nat × Bool)) (C : COk X.prog X.w X.K X.mg X.base k f0 F0 cl 1 fr (spB X.K X.mg n J g)) (C0 : NdefX.CellsAt cl fr (ws.map some) X.s_0.heap X.H_0) (hx : X.ex = []) (hr : Room k' X.A) (tk : Takes X W)
    (hP : js.map (fun p => ol.P p.1) = ws.map some) (hN : X.N[i]? = some x) (hv : Vis X.env.scope x) (ha : VXA X W own (e :: es) fs) (h1 : VSs X W own own' ol s1 a) (h2 : VSs X W own own' ol s2 b) (hk : k ≤ k' := by decide) (hn : n = 1 + fr.length := by rfl) (hj : ∀ p ∈ js, p.2 = true → p.1 ∈ own := by decide)
    (we : ∀ i ∈ ol.e, i ∈ own := by first | decide | (dsimp only; decide)) (hd : (x == ("__debug__" : Str)) = false := by decide) (hcd : (x == ("__classdict__" : Str)) = false := by decide)
    (he : starEach (e :: es) X.env = (false, eval e X.env) :: starEach es X.env := by rfl) (hpl : (backTo pos (starEach es X.env)).any (·.1) = false := by rfl)
    (ht : ∀ whole, isTrue (.Call (.Name x p) (e :: es) [] pos) X.env whole = (do let v ← whole; standAt (Expr.Call (.Name x p) (e :: es) [] pos).pos; holding [v] (truthy v)) := by intro _; rfl) :
    VS X W own own' ol (.If (.Call (.Name x p) (e :: es) [] pos) s1 s2 pos') (ifX (boolX (holdC (.cl f0 F0) i (capX n J g js fs))) a b) := by
  have q := pe_callM (Pn := ol.P) (p := p) (pos := pos) C hr hk tk hn hN hv ha hj (fun pins σ H s I pn => by rw [pin_slots pn hP]; exact cells_later C0 hx I) hd hcd he hpl
  refine ⟨psW (ps_if (pt_val q ht) h1.ps h2.ps) fun D σ H ⟨B, ρ, x, pn, q⟩ => ⟨B, ρ, x, pn, ?_⟩⟩
  have q := OutX.bind (SEnd.outX pn we q)
  refine q.mono fun d ρ' _ q v H' z => ?_
  have zs := z.sta
  obtain ⟨S, F, A, b, y, f, n1, n2⟩ := z
  cases f with
  | bl k =>
    refine ⟨k, rfl, ?_⟩
    have q : SEnd X.K X.mg W own' ol B D (if k = true then _ else _) := q
    cases k with
    | true => exact ⟨B, ρ', zs, pn, q⟩
    | false => exact ⟨B, ρ', zs, pn, q⟩
  | _ => exact q.elim
end
/-! ### a made function handed to a def -/
open Classical in
/-- .. z stands at the place i -/
noncomputable def capZ (i : Nat) (z : D) (n : Nat) (J : List Nat) (m : List D → RX D) (js : List (Nat × Bool)) (as : List Arg) (ρ : Env) : RX D := match capsA js ρ with
  | some bs => (match argsD ρ (as ++ bs) with
    | some ds => if ds[i]? = some z ∧ (as ++ bs).length = n ∧ okA J (as ++ bs) ds then (match m ds with
      | .ok d es => .ok d (backL J (as ++ bs) es 0 ρ)
      | .ex c es => .ex c (backL J (as ++ bs) es 0 ρ)
      | .st => .st) else .st
    | none => .st)
  | none => .st
theorem capZ_eq {i n : Nat} {z : D} {J : List Nat} {m : List D → RX D} {js : List (Nat × Bool)} {as bs : List Arg} {ds : List D} {ρ : Env} (h1 : capsA js ρ = some bs) (h2 : argsD ρ (as ++ bs) = some ds) (h3 : ds[i]? = some z) (h4 : (as ++ bs).length = n) (h5 : okA J (as ++ bs) ds) :
    capZ i z n J m js as ρ = match m ds with
      | .ok d es => .ok d (backL J (as ++ bs) es 0 ρ)
      | .ex c es => .ex c (backL J (as ++ bs) es 0 ρ)
      | .st => .st := by
  unfold capZ
  rw [h1]
  simp only
  rw [h2]
  simp only
  rw [if_pos ⟨h3, h4, h5⟩]
open Classical in
/-- what is told, whichever function object it is -/
noncomputable def uniX (m : Addr → CF → RX D) : RX D := if h : ∃ r, ∀ f F, m f F = r then Classical.choose h else .st
theorem uniX_eq {m : Addr → CF → RX D} {r : RX D} (h : ∀ f F, m f F = r) : uniX m = r := by
  have hx : ∃ r, ∀ f F, m f F = r := ⟨r, h⟩
  unfold uniX
  rw [dif_pos hx]
  exact (Classical.choose_spec hx 0 ⟨fun _ => True, 0, ""⟩).symm.trans (h _ _)
theorem OutX.uni {K : PySem.W.Frag} {mg : Str → Option Value} {W : WX} {own : List Nat} {B : Hp} {σ : L2.St} {m : Addr → CF → RX D} {P : D → Env → Prop} (h : OutX K mg W own B σ (uniX m) P) (f : Addr) (F : CF) : OutX K mg W own B σ (m f F) P := by
  unfold uniX at h
  split at h
  · rename_i hx
    rw [Classical.choose_spec hx f F]
    exact h
  · exact h.elim
open Classical in
noncomputable def uniS (m : Addr → CF → Sr) : Sr := if h : ∃ r, ∀ f F, m f F = r then Classical.choose h else .st
theorem uniS_eq {m : Addr → CF → Sr} {r : Sr} (h : ∀ f F, m f F = r) : uniS m = r := by
  have hx : ∃ r, ∀ f F, m f F = r := ⟨r, h⟩
  unfold uniS
  rw [dif_pos hx]
  exact (Classical.choose_spec hx 0 ⟨fun _ => True, 0, ""⟩).symm.trans (h _ _)
theorem SEnd.uni {K : PySem.W.Frag} {mg : Str → Option Value} {W : WX} {own : List Nat} {ol : Ol} {B : Hp} {D : Ends} {m : Addr → CF → Sr} (h : SEnd K mg W own ol B D (uniS m)) (f : Addr) (F : CF) : SEnd K mg W own ol B D (m f F) := by
  unfold uniS at h
  split at h
  · rename_i hx
    rw [Classical.choose_spec hx f F]
    exact h
  · exact h.elim
/-- the slot i is no longer told -/
def dropZ (i : Nat) : Sr → Sr
  | .nx ρ => .nx (ρ.set i none)
  | .bk ρ => .bk (ρ.set i none)
  | .ct ρ => .ct (ρ.set i none)
  | .ex c ρ => .ex c (ρ.set i none)
  | .rb d ρ => .rb d (ρ.set i none)
  | r => r
section
variable {K : PySem.W.Frag} {mg : Str → Option Value} {W : WX} {own : List Nat} {ol : Ol} {B S H : Hp} {F : Nat → List Addr} {D : Ends} {ρ : Env} {σ : L2.St} {v : V} {d : Vs.D}
theorem Stx.none (x : Stx own K S F ρ σ H) (i : Nat) : Stx own K S F (ρ.set i none) σ H := by
  refine ⟨by rw [List.length_set]; exact x.len, x.sub, x.cl, x.tabs, fun j d q => ?_, x.out, x.dis⟩
  rcases get_set q with ⟨_, e, _⟩ | ⟨_, q⟩
  · cases e
  · exact x.val j d q
theorem Sta.none (x : Sta own B K ρ σ H) (i : Nat) : Sta own B K (ρ.set i none) σ H := let ⟨S, F, b, y⟩ := x; ⟨S, F, b, y.none i⟩
theorem StaV.none (x : StaV own B K ρ σ H v d) (i : Nat) : StaV own B K (ρ.set i none) σ H v d := let ⟨S, F, A, b, y, z⟩ := x; ⟨S, F, A, b, y.none i, z⟩
theorem SEnd.drop {r : Sr} {i : Nat} (h : SEnd K mg W own ol B D (dropZ i r)) : SEnd K mg W own ol B D r := by
  cases r with
  | st => exact h
  | nx ρ => exact fun σ H x pn => h σ H (x.none i) pn
  | rt d => exact h
  | rb d ρ => exact fun v σ H x pn => h v σ H (x.none i) pn
  | bk ρ => exact fun σ H x pn => h σ H (x.none i) pn
  | ct ρ => exact fun σ H x pn => h σ H (x.none i) pn
  | ex c ρ =>
    obtain ⟨C, h1, h2⟩ := h
    exact ⟨C, h1, fun σ H x pn => h2 σ H (x.none i) pn⟩
end
noncomputable def defS (i : Nat) (b : D → Env → Sr) (ρ : Env) : Sr := uniS fun f F => dropZ i (b (.cl f F) (ρ.set i (some (.cl f F))))
section
variable {X : Cx} {W : WX} {own own' J : List Nat} {ol : Ol} {e a1 a2 : Expr} {es : List Expr} {fs : Env → RX (List Arg)} {x : Str} {p pos lpos : Pos} {k k' k2 i n : Nat} {f0 : Addr} {F0 : CF} {cl : List (Str × Addr)} {ps fr : List Str} {js : List (Nat × Bool)} {J' : List Nat} {g m : List D → RX D} {t : TA}
theorem capZ_core {B H : Hp} {σ : L2.St} {ρ : Env} {vs : List V} {as : List Arg} {Q : VK} {K : PySem.W.Frag} {mg : Str → Option Value} {z : D} (hj : ∀ p ∈ js, p.2 = true → p.1 ∈ own) (h : StaA own B K ρ σ H vs as)
    (o : OutX K mg W own B σ (capZ i z n J m js as ρ) fun d ρ' => ∀ v H', StaV own B K ρ' σ H' v d → Q v H') : ∃ ws : List V, js.map (fun p => NdefX.slotAt σ p.1) = ws.map some ∧ spC K mg n J i z m (vs ++ ws) H Q (WE W σ) := by
  unfold capZ at o
  cases hc : capsA js ρ with
  | none => rw [hc] at o; exact o.elim
  | some bs =>
    rw [hc] at o
    obtain ⟨S, F, A, b, y, ao, n1, n2⟩ := h
    obtain ⟨ws, h1, h2⟩ := capsA_ok y hj hc
    refine ⟨ws, h1, ?_⟩
    cases hd : argsD ρ (as ++ bs) with
    | none => simp only [hd] at o; exact o.elim
    | some ds =>
      simp only [hd] at o
      by_cases c : ds[i]? = some z ∧ (as ++ bs).length = n ∧ okA J (as ++ bs) ds
      rotate_left
      · rw [if_neg c] at o; exact o.elim
      rw [if_pos c] at o
      have ao' := ao.app h2
      obtain ⟨Fc, st⟩ := lend_to y ao' n1 n2 hd c.2.2
      refine ⟨ao'.length.trans c.2.1, _, Fc, ds, c.1, st, ?_⟩
      cases hm : m ds with
      | st => rw [hm] at o; exact o.elim
      | ok d es => rw [hm] at o; exact fun v H' z => o v H' ((lend_staV y ao' z).down b)
      | ex c es =>
        rw [hm] at o
        obtain ⟨C, h1, h2⟩ := o
        exact ⟨C, h1, fun H' z => h2 H' ((lend_sta y ao' z).down b)⟩
theorem pe_giveM (L : CalC X.prog X.w X.K X.mg X.base x ps i fr J k k2 J' g m) (hr : Room k' X.A) (hk : k ≤ k') (tk : Takes X W) (hg : Gl X x) (ha : PA X (e :: es) t)
    (hdb : (x == ("__debug__" : Str)) = false := by decide) (he : starEach (e :: es) X.env = (false, eval e X.env) :: starEach es X.env := by rfl) (hpl : (backTo pos (starEach es X.env)).any (·.1) = false := by rfl) :
    PE X (.Call (.Name x p) (e :: es) [] pos) fun σ H Q => t σ H fun vs H1 => ∃ (f0 : Addr) (F0 : CF) (cl : List (Str × Addr)) (ws : List V), COk X.prog X.w X.K X.mg X.base k2 f0 F0 cl 1 fr (spB X.K X.mg (1 + fr.length) J' g) ∧ (∀ pins s, Inv X pins σ H1 s → NdefX.CellsAt cl fr (ws.map some) s.heap H1) ∧
      vs.length = ps.length ∧ spC X.K X.mg (ps.length + fr.length) J i (.cl f0 F0) m (vs ++ ws) H1 Q (WE W σ) := by
  obtain ⟨f, fd, h1, h2, h3, h4⟩ := L
  refine ⟨fun pins s σ H Q I h => ?_⟩
  refine wpAny_Call_Name_kw (ld_glob I hg h1 ?_ hdb)
  refine PySem.W.callWith_K (h₀ := X.base) I.ok.mod.kin h2 (thn (ha.run pos pins s σ H _ I h) fun us s1 ⟨vs, H1, I1, r, q⟩ => ⟨I1.kIn, ?_⟩) he hpl
  obtain ⟨f0, F0, cl, ws, C, hc, hl, q⟩ := q
  have hus : us.length = ps.length := by rw [← hl, r.length]
  refine wpAny_call (codeAny_mono (h4 f0 F0 cl C X.A X.stack s1 H1 ⟨us, []⟩ us vs ws Q (WE W σ) (hr.mono hk) I1.env0 (by have q := h3 s1 us I1.kIn (by rw [List.append_nil]; exact hus); rw [List.append_nil] at q; exact q) hl (hc pins s1 I1) r q) fun r' s' hq => ?_)
  cases r' with
  | error e => exact passAt tk σ pins H1 s1 e s' I1 hq
  | ok fl =>
    cases fl with
    | ret u => exact I1.after hq
    | next => exact False.elim hq
    | brk => exact False.elim hq
    | cont => exact False.elim hq
end
section
variable {X : Cx} {W : WX} {own own' J : List Nat} {ol : Ol} {e a1 a2 : Expr} {es : List Expr} {fs : Env → RX (List Arg)} {x : Str} {p pos lpos : Pos} {k k' k2 i n : Nat} {f0 : Addr} {F0 : CF} {cl : List (Str × Addr)} {ps fr : List Str} {js : List (Nat × Bool)} {J' : List Nat} {g m : List D → RX D} {g1 g2 : Env → R D} {params : Arguments} {body : Expr} {scope : Scope}
noncomputable def givC (i : Nat) (z : D) (n : Nat) (J : List Nat) (m : List D → RX D) (js : List (Nat × Bool)) (fs : Env → RX (List Arg)) (ρ : Env) : RX D := (fs ρ).bind (capZ i z n J m js)
/-- x(.., f), f a name of a function made here -/
theorem vx_callC (i : Nat) (js : List (Nat × Bool)) (L : CalC X.prog X.w X.K X.mg X.base x ps i fr J k k2 J' g m) (C : COk X.prog X.w X.K X.mg X.base k2 f0 F0 cl 1 fr (spB X.K X.mg (1 + fr.length) J' g)) (cp : X.Ok → NdefX.Caps X cl fr (js.map (·.1))) (hr : Room k' X.A) (tk : Takes X W) (hg : Gl X x) (ha : VXA X W own (e :: es) fs)
    (hk : k ≤ k' := by decide) (hn : n = ps.length + fr.length := by rfl) (hjl : js.length = fr.length := by rfl) (hj : ∀ p ∈ js, p.2 = true → p.1 ∈ own := by decide)
    (hdb : (x == ("__debug__" : Str)) = false := by decide) (he : starEach (e :: es) X.env = (false, eval e X.env) :: starEach es X.env := by rfl) (hpl : (backTo pos (starEach es X.env)).any (·.1) = false := by rfl) :
    VX X W own (.Call (.Name x p) (e :: es) [] pos) (givC i (.cl f0 F0) n J m js fs) := ⟨peW (pe_giveM L hr hk tk hg ha.pa hdb he hpl) fun σ H Q ⟨B, ρ, st, o⟩ => ⟨B, ρ, st, (OutX.bind o).mono fun as ρ' _ q vs H' z => by
  subst hn
  obtain ⟨ws, h1, h2⟩ := capZ_core hj z q
  have hc : ∀ pins s, Inv X pins σ H' s → NdefX.CellsAt cl fr (ws.map some) s.heap H' := fun pins s I => by
    have q := NdefX.cells_of I (cp I.ok)
    rw [List.map_map] at q
    rw [← h1]
    exact q
  have hl : vs.length = ps.length := by
    have e1 := h2.1
    have q := congrArg List.length h1
    rw [List.length_map, List.length_map] at q
    rw [List.length_append] at e1
    omega
  exact ⟨f0, F0, cl, ws, C, hc, hl, h2⟩⟩⟩
/-- a lambda -/
theorem pe_lam {c P : Addr} {fr : List Str} (TB : LamX.TabB X.base X.mg c P) (hcode : X.env.code = .ref c) (hn : nmL lpos.line lpos.col = X.env.qual ++ "<lambda>") (hdef : defaultsOf params X.env = ([], []))
    (hfree : ∀ y ∈ scope.names, y.2 = .free → X.env.scope.names.lookup y.1 = some .cell ∨ X.env.scope.names.lookup y.1 = some .free) :
    PE X (.Lambda params body scope lpos) fun σ H Q => TabL H P ∧ ∀ (f c' : Addr) (H1 : Hp), Same H H1 → H1 f = some (.ext (lmP f ⟨"<lambda>", X.env.qual ++ "<lambda>", params, [], scope, cloFrom X.env.cells scope.names [], c'⟩ body)) → H1 c' = some (LamX.CodeO c' (X.env.qual ++ "<lambda>")) → Q (.ref f) H1 := by
  refine ⟨fun pins s σ H Q I ⟨hT, h⟩ => ?_⟩
  exact lam_make I TB hcode hT hn hdef (fun y hy e => (hfree y hy e).elim (fun z => I.ok.has _ (.inl z)) fun z => I.ok.has _ (.inr z)) fun f c' H1 s' I1 s1 e1 e2 => ⟨.ref f, H1, I1, rfl, h f c' H1 s1 e1 e2⟩
noncomputable def callL (i n : Nat) (J : List Nat) (m : List D → RX D) (js : List (Nat × Bool)) (g1 g2 : Env → R D) (ρ : Env) : RX D :=
  ((liftX g1 ρ).bind immX).bind fun a ρ => ((liftX g2 ρ).bind immX).bind fun b ρ => uniX fun f F => capZ i (.cl f F) n J m js [.vl a, .vl b, .vl (.cl f F)] ρ
theorem OutX.imm {K : PySem.W.Frag} {mg : Str → Option Value} {W : WX} {own : List Nat} {B : Hp} {σ : L2.St} {d : D} {ρ : Env} {P : D → Env → Prop} (h : OutX K mg W own B σ (immX d ρ) P) : immD d = true ∧ P d ρ := by
  unfold immX at h
  split at h
  · rename_i m
    exact ⟨m, h⟩
  · exact h.elim
theorem liftX_out {α : Type} {K : PySem.W.Frag} {mg : Str → Option Value} {W : WX} {own : List Nat} {B H : Hp} {σ : L2.St} {f : Env → R α} {ρ : Env} {P : α → Env → Prop} (st : Sta own B K ρ σ H) (h : OutX K mg W own B σ (liftX f ρ) P) : Out mg W σ H (f ρ) fun a => P a ρ := OutX.lift st h
/-- x(a, b, lambda ..: ..) -/
theorem vx_callL (js : List (Nat × Bool)) {c P : Addr} (L : CalC X.prog X.w X.K X.mg X.base x ps 2 fr J k k2 J' g m)
    (C : ∀ f c', COk X.prog X.w X.K X.mg X.base k2 f (cfL body f ⟨"<lambda>", X.env.qual ++ "<lambda>", params, [], scope, cloFrom X.env.cells scope.names [], c'⟩) (cloFrom X.env.cells scope.names []) 1 fr (spB X.K X.mg (1 + fr.length) J' g))
    (TB : LamX.TabB X.base X.mg c P) (hcode : X.env.code = .ref c) (hP : P ∈ tabPs) (hnm : nmL lpos.line lpos.col = X.env.qual ++ "<lambda>") (hdef : defaultsOf params X.env = ([], [])) (hfree : NdefX.ndefB X.env.scope scope fr = true) (hjs : (js.map (·.1)).map (fun j => X.N[j]?) = fr.map some)
    (hr : Room k' X.A) (tk : Takes X W) (hg : Gl X x) (h1 : VG X W a1 g1) (h2 : VG X W a2 g2)
    (hk : k ≤ k' := by decide) (hn : n = ps.length + fr.length := by rfl) (hjl : js.length = fr.length := by rfl) (hj : ∀ p ∈ js, p.2 = true → p.1 ∈ own := by decide)
    (hdb : (x == ("__debug__" : Str)) = false := by decide) (he : starEach (a1 :: [a2, .Lambda params body scope lpos]) X.env = (false, eval a1 X.env) :: starEach [a2, .Lambda params body scope lpos] X.env := by rfl)
    (he2 : starEach (a2 :: [.Lambda params body scope lpos]) X.env = (false, eval a2 X.env) :: starEach [.Lambda params body scope lpos] X.env := by rfl)
    (he3 : starEach (.Lambda params body scope lpos :: []) X.env = (false, eval (.Lambda params body scope lpos) X.env) :: starEach [] X.env := by rfl) (hpl : (backTo pos (starEach [a2, .Lambda params body scope lpos] X.env)).any (·.1) = false := by rfl) :
    VX X W own (.Call (.Name x p) [a1, a2, .Lambda params body scope lpos] [] pos) (callL 2 n J m js g1 g2) := ⟨peW (pe_giveM L hr hk tk hg (pa_cons h1.pe (pa_cons h2.pe (pa_cons (pe_lam (fr := fr) TB hcode hnm hdef (NdefX.ndef_free hfree)) pa_nil he3) he2) he) hdb he hpl) fun σ H Q ⟨B, ρ, st, o⟩ => by
  subst hn
  refine ⟨ρ, st.env, (liftX_out st (OutX.bind (OutX.bind o))).mono fun a _ o v1 H1 A1 s1 f1 n1 => ?_⟩
  obtain ⟨ma, o⟩ := OutX.imm o
  have st1 := st.grow s1
  refine ⟨ρ, st1.env, (liftX_out st1 (OutX.bind (OutX.bind o))).mono fun b _ o v2 H2 A2 s2 f2 n2 => ?_⟩
  obtain ⟨mb, o⟩ := OutX.imm o
  have st2 := st1.grow s2
  refine ⟨st2.env.tabs P hP, fun f c' H3 s3 e1 e2 => ?_⟩
  have st3 := st2.grow s3
  have o := OutX.uni o f (cfL body f ⟨"<lambda>", X.env.qual ++ "<lambda>", params, [], scope, cloFrom X.env.cells scope.names [], c'⟩)
  have z : StaA own B X.K ρ σ H3 [v1, v2, .ref f] [.vl a, .vl b, .vl (.cl f (cfL body f ⟨"<lambda>", X.env.qual ++ "<lambda>", params, [], scope, cloFrom X.env.cells scope.names [], c'⟩))] := by
    obtain ⟨S, F, b0, y⟩ := st3
    exact ⟨S, F, [] ++ ([] ++ ([] ++ [])), b0, y, .vl (((f1.rd.mono s2).mono s3).fu ma) (.vl ((f2.rd.mono s3).fu mb) (.vl (.cl e1 e2) .nil (fun _ z => nomatch z)) (fun _ z => nomatch z)) (fun _ z => nomatch z), (fun _ z => nomatch z), fun _ _ _ z => nomatch z⟩
  obtain ⟨ws, h1, h2⟩ := capZ_core hj z o
  have hc : ∀ pins s, Inv X pins σ H3 s → NdefX.CellsAt (cloFrom X.env.cells scope.names []) fr (ws.map some) s.heap H3 := fun pins s I => by
    have q := NdefX.cells_of I (NdefX.Caps.made (js := js.map (·.1)) I.ok (NdefX.ndef_free hfree) (NdefX.ndef_fr hfree) hjs)
    rw [List.map_map] at q
    rw [← h1]
    exact q
  exact ⟨f, _, _, ws, C f c', hc, by
    have e1 := h2.1
    have q := congrArg List.length h1
    rw [List.length_map, List.length_map] at q
    rw [List.length_append] at e1
    omega, h2⟩⟩
/-- def name(..): .. and what comes behind -/
theorem vss_def (i : Nat) {c P : Addr} {name : Str} {params : Arguments} {dbody : List Stmt} {rest : List Stmt} {b : D → Env → Sr} (TB : LamX.TabB X.base X.mg c P) (hcode : X.env.code = .ref c) (hP : P ∈ tabPs) (hn : nmL pos.line pos.col = X.env.qual ++ name)
    (hfree : ∀ y ∈ scope.names, y.2 = .free → X.env.scope.names.lookup y.1 = some .cell ∨ X.env.scope.names.lookup y.1 = some .free)
    (hrest : ∀ f c', VSs X W own own' ol rest (b (.cl f (cfN f ⟨name, X.env.qual ++ name, params, dbody, scope, cloFrom X.env.cells scope.names [], c'⟩))))
    (hN : X.N.Nodup) (hi : X.N[i]? = some name) (hx : Loc X.env.scope name) (hf : X.fn name = true ∨ X.env.scope.names.lookup name = some .local := by first | exact .inl rfl | exact .inr rfl | assumption)
    (hd0 : params.defaults = [] := by rfl) (hk0 : params.kw_defaults = [] := by rfl) (ha : annTrees params none X.env = [] := by rfl) (hio : i ∉ own := by decide) (hp : ol.P i = none := by rfl) :
    VSs X W own own' ol (.FunctionDef name params dbody [] none [] scope none name pos :: rest) (defS i b) := by
  have h1 : PS X (.FunctionDef name params dbody [] none [] scope none name pos) fun D σ H => TabL H P ∧ ∀ (f c' : Addr) (H1 : Hp), Same H H1 → H1 f = some (.ext (fnP f ⟨name, X.env.qual ++ name, params, dbody, scope, cloFrom X.env.cells scope.names [], c'⟩)) → H1 c' = some (LamX.CodeO c' (X.env.qual ++ name)) → D.nx (σ.set i (some (.ref f))) H1 := by
    refine ⟨fun pins s σ H D I ⟨hT, h⟩ => ?_⟩
    have hq : qualnameIn X.env name name = X.env.qual ++ name := by
      have hk : X.env.kindOf name = some .local ∨ X.env.kindOf name = some .cell := hx
      unfold qualnameIn
      rcases hk with k | k <;> rw [k] <;> first | rfl | exact if_neg (by decide)
    refine PySem.W.nestDef_K hd0 hk0 ha ?_
    rw [hq]
    refine def_make I TB hcode hT hn (fun y hy e => (hfree y hy e).elim (fun z => I.ok.has _ (.inl z)) fun z => I.ok.has _ (.inr z)) fun f c' H1 s' I1 s1 e1 e2 => ?_
    exact store_ok I1 hN hi hx (v := .ref f) rfl (fun s'' J => ⟨_, H1, J, h f c' H1 s1 e1 e2⟩) hf
  have h2 : PSs X rest fun D σ H => ∃ f c', tS X.K X.mg W own own' ol (b (.cl f (cfN f ⟨name, X.env.qual ++ name, params, dbody, scope, cloFrom X.env.cells scope.names [], c'⟩))) D σ H :=
    ⟨fun pins s σ H D I ⟨f, c', h⟩ => (hrest f c').ps.run pins s σ H D I h⟩
  refine ⟨pssW (pss_cons h1 h2) fun D σ H ⟨B, ρ, x, pn, q⟩ => ⟨x.env.tabs P hP, fun f c' H1 s1 e1 e2 => ⟨f, c', ?_⟩⟩⟩
  obtain ⟨S, F, b0, y⟩ := x.grow s1
  have hS1 := y.cl _ _ e1 True.intro True.intro
  have hS2 := y.cl _ (LamX.CodeO c' (X.env.qual ++ name)) e2 True.intro True.intro
  exact ⟨B, _, ⟨S, F, b0, y.lay (d := .cl f (cfN f ⟨name, X.env.qual ++ name, params, dbody, scope, cloFrom X.env.cells scope.names [], c'⟩)) hio (.cl hS1 hS2)⟩, pn.set hp, (SEnd.uni q f _).drop⟩
end
/-! ### defs that make functions: their own code object is known -/
theorem Fun.okC {P : Program} {w : World} {K : PySem.W.Frag} {mg : Str → Option Value} {base : Heap} {x qual : Str} {st : Stmt} {f c : Addr} {fd : FuncData} {N ps : List Str} {k : Nat} {sp : Sp} (F : Fun K x qual st f fd) (hcode : fd.code = .ref c) (S : FnScope N ps (defScope st)) (len : ∀ vs H Q E, sp vs H Q E → vs.length = ps.length)
    (hbody : ∀ (A : Around) (outer : List PySem.Env) (s : Shared) (H : Hp) (vs : List V) (Q : VK) (E : XK), Room k (A.deeper (envOfC qual (defScope st) s.heap.objs.size f (.ref c))) → sp vs H Q E →
      ∃ t, PSs (cxOf (L2.CX P w) P w K mg base N qual (defScope st) f (.ref c) A outer s H E) (defBody st) t ∧ t { nx := fun _ H' => Q .non H', rt := Q } (L2.start N vs) H) : FnOk P w K mg base (L2.CX P w) (k + 1) f fd ps sp := by
  obtain ⟨oc, od, kV, doc, pm, an, cdv, ct, osl, rfl, lk, hcd⟩ := F.ex
  have hcode : cdv = .ref c := hcode
  subst hcode
  exact fn_of lk hcd S len fun A outer s H vs Q E hr hsp => hbody A outer s H vs Q E hr hsp
def DefC (K : PySem.W.Frag) (mg : Str → Option Value) (x : Str) (st : Stmt) (c : Addr) : Prop := ∃ f fd, Fun K x x st f fd ∧ mg x = some (.ref f) ∧ fd.code = .ref c
def MDefC (K : PySem.W.Frag) (mg : Str → Option Value) (c x qual : Str) (st : Stmt) (cd : Addr) : Prop := ∃ C f fd, PySem.W.nsIn K mainGlobals c = some (some (.ref C)) ∧ mg c = some (.ref C) ∧ Cls K C ∧ Meth K C x f ∧ Fun K x qual st f fd ∧ fd.code = .ref cd
section
variable {P : Program} {w : World} {K : PySem.W.Frag} {mg : Str → Option Value} {base : Heap} {x c qual : Str} {st : Stmt} {N ps : List Str} {k : Nat} {J own' : List Nat} {b : Env → Sr} {cd : Addr}
theorem cal_mkC (F : DefC K mg x st cd) (S : FnScope N ps (defScope st)) (hps : ps.length ≤ N.length)
    (hb : ∀ (kV doc pm : Value) (an : Option Addr) (cdv ct : Value) (us : List Value), us.length = ps.length → bindArgs (PySem.W.fnOf x x (defArgs st) (defBody st) (defScope st) .none kV doc pm an cdv ct) ⟨us, []⟩ = pure (ps.zip us))
    (hbody : ∀ (f : Addr) (A : Around) (outer : List PySem.Env) (s : Shared) (H : Hp) (E : XK), Room k (A.deeper (envOfC x (defScope st) s.heap.objs.size f (.ref cd))) →
      VSs (cxOf (L2.CX P w) P w K mg base N x (defScope st) f (.ref cd) A outer s H E) (fun cls d _ H => E cls d H) [] own' nol (defBody st) b) :
    Cal P w K mg base x ps (k + 1) (runB N.length b) := by
  obtain ⟨f, fd, F, h, hcode⟩ := F
  refine ⟨f, fd, h, F.kp, F.binds hb, Fun.okC F hcode S (fun vs H Q E h => h.1) (fun A outer s H vs Q E hr h => ?_)⟩
  obtain ⟨hl, tb, ds, r, h⟩ := h
  refine ⟨_, (hbody f A outer s H E hr).ps, H, _, start_env tb r (by rw [hl]; exact hps), Pin.nol, ?_⟩
  unfold runB at h
  generalize b (ds.map some ++ List.replicate (N.length - ds.length) none) = q at h
  cases q with
  | st => exact h
  | nx ρ => exact fun σ H' y _ => h .non H' [] y.base .non (fun _ z => nomatch z)
  | rt d => exact h
  | rb d ρ => exact h.elim
  | bk ρ => exact h.elim
  | ct ρ => exact h.elim
  | ex c ρ =>
    obtain ⟨C, h1, h2⟩ := h
    exact ⟨C, h1, fun σ H' y _ => h2 H' y.base⟩
theorem calBM_mkC (F : MDefC K mg c x qual st cd) (S : FnScope N ps (defScope st)) (w' : ∀ i ∈ J, i ∈ own')
    (hb : ∀ (kV doc pm : Value) (an : Option Addr) (cdv ct : Value) (us : List Value), us.length = ps.length → bindArgs (PySem.W.fnOf x qual (defArgs st) (defBody st) (defScope st) .none kV doc pm an cdv ct) ⟨us, []⟩ = pure (ps.zip us))
    (hbody : ∀ (vs : List V) (f : Addr) (A : Around) (outer : List PySem.Env) (s : Shared) (H : Hp) (E : XK), Room k (A.deeper (envOfC qual (defScope st) s.heap.objs.size f (.ref cd))) →
      VSs (cxOf (L2.CX P w) P w K mg base N qual (defScope st) f (.ref cd) A outer s H E) (fun cls d _ H => E cls d H) J own' (olB J vs) (defBody st) b) :
    CalBM P w K mg base c x ps J (k + 1) (runL N.length ps.length J b) := by
  obtain ⟨C, f, fd, h1, _, h2, h3, F, hcode⟩ := F
  refine ⟨C, f, fd, h1, h2, h3, F.binds hb, Fun.okC F hcode S (fun vs H Q E h => h.1) (fun A outer s H vs Q E hr h => ?_)⟩
  obtain ⟨hl, S0, F0, ds, y, h⟩ := h
  exact ⟨_, (hbody vs f A outer s H E hr).ps, lent_core hl (fun i m => m) w' y h⟩
end
/-! ### the end of a law that makes functions -/
def spLawT (K : PySem.W.Frag) : Sp := fun vs H Q _ => ∃ (a : Addr) (ns : List Int), vs = [.ref a] ∧ SqL K H a (ns.map V.int) ∧ Scr ns ∧ TabsL H ∧ ∀ H', Q (.bl true) H'
theorem law_ofT {P : Program} {w : World} {K : PySem.W.Frag} {mg : Str → Option Value} {base : Heap} {k : Nat} {f : Addr} {fd : FuncData} {ps : List Str} {m : List D → R D}
    (F : FnOk P w K mg base (L2.CX P w) k f fd ps (spF K mg 1 m)) (h : ∀ ns, Scr ns → m [.lst (ns.map D.int)] = .ok (.bl true)) : FnOk P w K mg base (L2.CX P w) k f fd ps (spLawT K) :=
  F.imp fun vs H Q E ⟨a, ns, e, hS, hs, ht, q⟩ => by
    subst e
    refine ⟨rfl, ht, [.lst (ns.map D.int)], .cons (.lst hS (rds_ints ns)) .nil, ?_⟩
    rw [h ns hs]
    intro v H' A _ f _
    cases f
    exact q H'
theorem law_endT {P : Program} {w : World} {K : PySem.W.Frag} {mg : Str → Option Value} {st : Stmt} {fa : Addr} {N : List Str} {k : Nat} {own' : List Nat} {b : Env → Sr} {cs : List (Addr × Addr)} (d : ∃ fd, Fun K "law" "law" st fa fd) (S : FnScope N ["_law_script"] (defScope st)) (hps : 1 ≤ N.length)
    (hb : ∀ (kV doc pm : Value) (an : Option Addr) (cdv ct : Value) (s : Shared) (v : Value), BindsTo s (PySem.W.fnOf "law" "law" (defArgs st) (defBody st) (defScope st) .none kV doc pm an cdv ct) ⟨[v], []⟩ [("_law_script", v)])
    (hbody : ∀ (base : Heap), K.In base → base.Ns mainGlobals mg → (∀ p ∈ cs, LamX.TabB base mg p.1 p.2) → ∀ (f : Addr) (cdv : Value) (A : Around) (outer : List PySem.Env) (s : Shared) (H : Hp) (E : XK), Room k (A.deeper (envOfC "law" (defScope st) s.heap.objs.size f cdv)) →
      VSs (cxOf (L2.CX P w) P w K mg base N "law" (defScope st) f cdv A outer s H E) (fun cls d _ H => E cls d H) [] own' nol (defBody st) b)
    (h : ∀ ns, Scr ns → runB N.length b [.lst (ns.map D.int)] = .ok (.bl true)) :
    ∃ fd : FuncData, (∀ (s : Shared) (u : Value), BindsTo s fd ⟨[u], []⟩ [("_law_script", u)]) ∧ ∀ base : Heap, K.In base → base.Ns mainGlobals mg → (∀ p ∈ cs, LamX.TabB base mg p.1 p.2) → FnOk P w K mg base (L2.CX P w) (k + 1) fa fd ["_law_script"] (spLawT K) := by
  obtain ⟨fd, F⟩ := d
  refine ⟨fd, fun s u => ?_, fun base h1 h2 h3 => law_ofT (fn_ok F S hps fun cdv A outer s H E hr => hbody base h1 h2 h3 fa cdv A outer s H E hr) h⟩
  obtain ⟨oc, od, kV, doc, pm, an, cdv, ct, osl, rfl, _, _⟩ := F.ex
  exact hb kV doc pm an cdv ct s u
/-- ts: the tables; cs: the code objects and their tables -/
theorem walkT {l : PySem.W.OpenLaw} {q : Program} {loose : List Str} {XP : (Str → Option Value) → Heap → Prop} {YP : World → Heap → Prop} {d : DefRec} {K : Params → PySem.W.Frag} {k : Nat} (cs : List (Addr × Addr)) (hn : l.most = some 63) (hdf : d.params.defaults = []) (hr : Room k callerA)
    (hts : ∀ P ∈ tabPs, P ∈ cs.map (·.2)) (hY : ∀ (w : World) (h : Heap), YP w h → (K w.params).In h) (hT : ∀ (w : World) (h : Heap), YP w h → ∀ p ∈ cs, h.get? p.2 = some { cls := .none, data := .fields #[] }) (hK : ∀ (w : World) (h : Heap), YP w h → ∀ p ∈ cs, (K w.params).lookup p.2 = none ∧ PySem.W.CodeHd h p.1 p.2)
    (F : ∀ (w : World) (mg : Str → Option Value) (fa : Addr) (h : Heap), YP w h → (K w.params).In h → h.Ns mainGlobals mg → mg d.name = some (.ref fa) →
      ∃ fd : FuncData, (∀ (s : Shared) (u : Value), BindsTo s fd ⟨[u], []⟩ [("_law_script", u)]) ∧ ∀ base : Heap, (K w.params).In base → base.Ns mainGlobals mg → (∀ p ∈ cs, LamX.TabB base mg p.1 p.2) → FnOk l.prog w (K w.params) mg base (L2.CX l.prog w) k fa fd ["_law_script"] (spLawT (K w.params))) :
    PySem.W.WalkO q loose XP YP l.row.toRowW d [] (fun f vs => PySem.call f vs) :=
  LamX.walk_ofTs (n := 63) (k := k) (x := "_law_script") (CX := fun w => L2.CX l.prog w) hn (by decide) hdf hr hY (fun w mg fa h Y hK' hns hmg => by
    obtain ⟨fd, hb, hF⟩ := F w mg fa h Y hK' hns hmg
    refine ⟨fd, cs, spLawT (K w.params), hT w h Y, fun p hp => (hK w h Y p hp).1, fun p hp => (hK w h Y p hp).2, hb, fun H a ns hl hbits hH hS => ⟨a, ns, rfl, hS, ⟨hl, hbits⟩, fun P hP => ?_, fun _ => rfl⟩, hF⟩
    obtain ⟨p, hp, e⟩ := List.mem_map.mp (hts P hP)
    exact NdefX.TabN.nil (by rw [← e]; exact hH p hp)) fun w H s e s' z => by
      obtain ⟨_, _, _, _, _, _, _, _, _, _, _, _, z⟩ := z
      exact z
/-! ### a def that makes functions, as the top left it -/
def DefCK (K : PySem.W.Frag) (x : Str) (st : Stmt) (c : Addr) : Prop := ∃ (f : Addr) (oc : Value) (od : Option Addr) (kV doc pm : Value) (an : Option Addr) (ct : Value) (sl : Array (Option Value)),
  PySem.W.nsIn K mainGlobals x = some (some (.ref f)) ∧ K.lookup f = some ⟨oc, od, .func (PySem.W.fnOf x x (defArgs st) (defBody st) (defScope st) .none kV doc pm an (.ref c) ct), sl⟩ ∧ PySem.W.codeIn K (.ref c) x = true ∧ PySem.W.keepIn K (.ref f) = true
theorem defCK_mk {K : PySem.W.Frag} {x : Str} {st : Stmt} {f c : Addr} {oc : Value} {od : Option Addr} {kV doc pm : Value} {an : Option Addr} {ct : Value} {sl : Array (Option Value)}
    (a : PySem.W.nsIn K mainGlobals x = some (some (.ref f))) (l : K.lookup f = some ⟨oc, od, .func (PySem.W.fnOf x x (defArgs st) (defBody st) (defScope st) .none kV doc pm an (.ref c) ct), sl⟩) (c' : PySem.W.codeIn K (.ref c) x = true) (k : PySem.W.keepIn K (.ref f) = true) : DefCK K x st c :=
  ⟨f, oc, od, kV, doc, pm, an, ct, sl, a, l, c', k⟩
theorem defC_of {K : PySem.W.Frag} {h : Heap} {mg : Str → Option Value} {x : Str} {st : Stmt} {c : Addr} (X : K.In h) (G : h.Ns mainGlobals mg) (d : DefCK K x st c) : DefC K mg x st c := by
  obtain ⟨f, oc, od, kV, doc, pm, an, ct, sl, a, l, c', k⟩ := d
  exact ⟨f, _, fun_mk l c' k, PySem.W.mg_of X G a, rfl⟩
def MetCK (K : PySem.W.Frag) (c x qual : Str) (st : Stmt) (cd : Addr) : Prop := ∃ (C f : Addr) (oc : Value) (od : Option Addr) (kV doc pm : Value) (an : Option Addr) (ct : Value) (sl : Array (Option Value)),
  PySem.W.nsIn K mainGlobals c = some (some (.ref C)) ∧ PySem.W.findIn K (.ref C) x = some (some (.ref f)) ∧ PySem.W.isFn K (.ref f) = true ∧
  K.lookup f = some ⟨oc, od, .func (PySem.W.fnOf x qual (defArgs st) (defBody st) (defScope st) .none kV doc pm an (.ref cd) ct), sl⟩ ∧ PySem.W.codeIn K (.ref cd) qual = true ∧ PySem.W.keepIn K (.ref f) = true
theorem metCK_mk {K : PySem.W.Frag} {c x qual : Str} {st : Stmt} {C f cd : Addr} {oc : Value} {od : Option Addr} {kV doc pm : Value} {an : Option Addr} {ct : Value} {sl : Array (Option Value)}
    (a : PySem.W.nsIn K mainGlobals c = some (some (.ref C))) (b : PySem.W.findIn K (.ref C) x = some (some (.ref f))) (c' : PySem.W.isFn K (.ref f) = true)
    (d : K.lookup f = some ⟨oc, od, .func (PySem.W.fnOf x qual (defArgs st) (defBody st) (defScope st) .none kV doc pm an (.ref cd) ct), sl⟩) (e : PySem.W.codeIn K (.ref cd) qual = true) (f' : PySem.W.keepIn K (.ref f) = true) : MetCK K c x qual st cd :=
  ⟨C, f, oc, od, kV, doc, pm, an, ct, sl, a, b, c', d, e, f'⟩
theorem mdefC_of {K : PySem.W.Frag} {h : Heap} {mg : Str → Option Value} {c x qual : Str} {st : Stmt} {cd : Addr} (X : K.In h) (G : h.Ns mainGlobals mg) (p : ClsK K c) (m : MetCK K c x qual st cd) : MDefC K mg c x qual st cd := by
  obtain ⟨C, h1, h2⟩ := p
  obtain ⟨C', f, oc, od, kV, doc, pm, an, ct, sl, a, b, c', d, e, f'⟩ := m
  rw [h1] at a
  cases a
  exact ⟨C, f, _, h1, PySem.W.mg_of X G h1, h2, ⟨b, c', f'⟩, fun_mk d e f', rfl⟩
/-! ### a lambda in a statement -/
def lamIn : Stmt → Expr
  | .Return (some (.Call _ [_, _, l] _ _)) _ => l
  | .Assign _ (.Call _ [_, _, l] _ _) _ => l
  | _ => .Constant .none 0 ⟨0, 0, 0, 0⟩
def lamArgs : Expr → Arguments
  | .Lambda a _ _ _ => a
  | _ => C8.fnArgs (.Pass ⟨0, 0, 0, 0⟩)
def lamBody : Expr → Expr
  | .Lambda _ b _ _ => b
  | e => e
def lamScope : Expr → Scope
  | .Lambda _ _ s _ => s
  | _ => C8.fnScope (.Pass ⟨0, 0, 0, 0⟩)
theorem ghosts_by {N : List Str} {sc : Scope} {n k : Nat} (h : ((N.drop n).take k).all (fun y => decide (sc.names.lookup y = none)) = true) : ∀ i y, n ≤ i → i < n + k → N[i]? = some y → ¬ Vis sc y := fun i y h1 h2 e v => by
  have m : y ∈ (N.drop n).take k := by
    refine List.mem_iff_getElem?.mpr ⟨i - n, ?_⟩
    rw [List.getElem?_take_of_lt (by omega), List.getElem?_drop, show n + (i - n) = i by omega, e]
  have q := of_decide_eq_true (List.all_eq_true.mp h y m)
  rcases v with v | v | v <;> rw [q] at v <;> cases v
end Vs

namespace Vs
open PySem PySem.Spec PyProof.Rows L2

/-! ### reckoning with meanings -/
theorem seqS_eq (a b : Env → Sr) (ρ : Env) : seqS a b ρ = (a ρ).seq b := by
  unfold seqS Sr.seq
  cases a ρ <;> rfl
theorem seq_nx (ρ : Env) (b : Env → Sr) : (Sr.nx ρ).seq b = b ρ := rfl
theorem seq_rt (d : D) (b : Env → Sr) : (Sr.rt d).seq b = .rt d := rfl
theorem seq_st (b : Env → Sr) : (Sr.st).seq b = .st := rfl
theorem seq_bk (ρ : Env) (b : Env → Sr) : (Sr.bk ρ).seq b = .bk ρ := rfl
theorem seq_ct (ρ : Env) (b : Env → Sr) : (Sr.ct ρ).seq b = .ct ρ := rfl
theorem seq_ex (c : Str) (ρ : Env) (b : Env → Sr) : (Sr.ex c ρ).seq b = .ex c ρ := rfl
theorem seq_ite (p : Prop) [Decidable p] (x y : Sr) (b : Env → Sr) : (if p then x else y).seq b = if p then x.seq b else y.seq b := by split <;> rfl
theorem body_nx (ρ : Env) : bodyR (.nx ρ) = .ok .non := rfl
theorem body_rt (d : D) : bodyR (.rt d) = .ok d := rfl
theorem body_ex (c : Str) (ρ : Env) : bodyR (.ex c ρ) = .ex c := rfl
theorem body_ite (p : Prop) [Decidable p] (x y : Sr) : bodyR (if p then x else y) = if p then bodyR x else bodyR y := by split <;> rfl
theorem bind_ite {α β : Type} (p : Prop) [Decidable p] (x y : R α) (f : α → R β) : (if p then x else y).bind f = if p then x.bind f else y.bind f := by split <;> rfl
theorem bindS_ite {α : Type} (p : Prop) [Decidable p] (x y : R α) (ρ : Env) (k : α → Sr) : bindS (if p then x else y) ρ k = if p then bindS x ρ k else bindS y ρ k := by split <;> rfl
theorem var0 (d : D) (ρ : Env) : varE 0 (some d :: ρ) = .ok d := rfl
theorem varS (i : Nat) (x : Option D) (ρ : Env) : varE (i + 1) (x :: ρ) = varE i ρ := rfl
theorem immD_int (i : Int) : immD (.int i) = true := by rw [immD]
theorem immD_bl (i : Bool) : immD (.bl i) = true := by rw [immD]
theorem immD_str (i : Str) : immD (.str i) = true := by rw [immD]
theorem immD_non : immD .non = true := by rw [immD]
theorem immD_tup (xs : List D) : immD (.tup xs) = immDs xs := by rw [immD]
theorem immD_lst (xs : List D) : immD (.lst xs) = false := by rw [immD]
theorem immDs_nil : immDs [] = true := by rw [immDs]
theorem immDs_cons (x : D) (xs : List D) : immDs (x :: xs) = (immD x && immDs xs) := by rw [immDs]
theorem immDs_ints : ∀ ns : List Int, immDs (ns.map D.int) = true
  | [] => by rw [List.map_nil, immDs]
  | n :: ns => by rw [List.map_cons, immDs, immD, immDs_ints ns]; rfl
theorem retV0 (d : D) (ρ : Env) : retV 0 (some d :: ρ) = .rt d := rfl
theorem retVS (i : Nat) (x : Option D) (ρ : Env) : retV (i + 1) (x :: ρ) = retV i ρ := rfl

/-! equality -/
theorem eqB_int (i j : Int) : eqB (.int i) (.int j) = decide (i = j) := by
  unfold eqB
  rw [pyD, pyD, PyData.eqv]
  first
    | rfl
    | (by_cases h : i = j <;> simp [h])
theorem shaped_int (i : Int) : SeqAt.shaped (pyD (.int i)) = true := by rw [pyD]; rfl
theorem eqD_int (i j : Int) : eqD (.int i) (.int j) = .ok (.bl (decide (i = j))) := by
  unfold eqD
  rw [if_pos ⟨shaped_int i, shaped_int j⟩, eqB_int]
theorem neD_int (i j : Int) : neD (.int i) (.int j) = .ok (.bl (!decide (i = j))) := by
  unfold neD
  rw [if_pos ⟨shaped_int i, shaped_int j⟩, eqB_int]

/-! lists by place -/
theorem atI_lt {α : Type} {xs : List α} {i : Int} (h0 : 0 ≤ i) (h : i < xs.length) : atI xs i = xs[i.toNat]? := by
  unfold atI ixN
  rw [if_pos h0, if_pos h]
  rfl
theorem ixD_lst {xs : List D} {i : Int} {d : D} (h0 : 0 ≤ i) (h : xs[i.toNat]? = some d) : ixD (.lst xs) (.int i) = .ok d := by
  have hl : i < xs.length := by
    have := (List.getElem?_eq_some_iff.mp h).1
    omega
  unfold ixD
  simp only
  rw [atI_lt h0 hl, h]
theorem ixD_tup {xs : List D} {i : Int} {d : D} (h0 : 0 ≤ i) (h : xs[i.toNat]? = some d) : ixD (.tup xs) (.int i) = .ok d := by
  have hl : i < xs.length := by
    have := (List.getElem?_eq_some_iff.mp h).1
    omega
  unfold ixD
  simp only
  rw [atI_lt h0 hl, h]
/-- the small sizes of products -/
theorem mulOk_of {i j : Int} {a b : Nat} (ha : i.natAbs < 2 ^ a) (hb : j.natAbs < 2 ^ b) (h : a + b ≤ 134000000 := by decide) : mulOk i j := by
  have x : ∀ {n k : Nat}, n < 2 ^ k → n.log2 ≤ k := fun {n k} h => by
    by_cases e : n = 0
    · subst e; rw [Nat.log2_zero]; exact Nat.zero_le _
    · exact Nat.le_of_lt ((Nat.log2_lt e).mpr h)
  have x1 := x ha
  have x2 := x hb
  unfold mulOk
  omega
theorem bits_lt {z : Int} {n : Nat} (h : Builtin.Int.intBits z ≤ n) : z.natAbs < 2 ^ n := by
  unfold Builtin.Int.intBits at h
  by_cases e : z.natAbs = 0
  · rw [e]; exact Nat.two_pow_pos n
  · split at h
    · rename_i h0
      simp at h0
      omega
    · exact (Nat.log2_lt e).mp (by omega)
theorem isT_int_non  : isT "int" (.non) = .ok (.bl false) := by simp [isT, clsD]
theorem isT_int_bl (b : Bool) : isT "int" (.bl b) = .ok (.bl true) := by simp [isT, clsD]
theorem isT_int_int (i : Int) : isT "int" (.int i) = .ok (.bl true) := by simp [isT, clsD]
theorem isT_int_str (x : Str) : isT "int" (.str x) = .ok (.bl false) := by simp [isT, clsD]
theorem isT_int_lst (xs : List D) : isT "int" (.lst xs) = .ok (.bl false) := by simp [isT, clsD]
theorem isT_int_tup (xs : List D) : isT "int" (.tup xs) = .ok (.bl false) := by simp [isT, clsD]
theorem isT_bool_non  : isT "bool" (.non) = .ok (.bl false) := by simp [isT, clsD]
theorem isT_bool_bl (b : Bool) : isT "bool" (.bl b) = .ok (.bl true) := by simp [isT, clsD]
theorem isT_bool_int (i : Int) : isT "bool" (.int i) = .ok (.bl false) := by simp [isT, clsD]
theorem isT_bool_str (x : Str) : isT "bool" (.str x) = .ok (.bl false) := by simp [isT, clsD]
theorem isT_bool_lst (xs : List D) : isT "bool" (.lst xs) = .ok (.bl false) := by simp [isT, clsD]
theorem isT_bool_tup (xs : List D) : isT "bool" (.tup xs) = .ok (.bl false) := by simp [isT, clsD]
theorem isT_str_non  : isT "str" (.non) = .ok (.bl false) := by simp [isT, clsD]
theorem isT_str_bl (b : Bool) : isT "str" (.bl b) = .ok (.bl false) := by simp [isT, clsD]
theorem isT_str_int (i : Int) : isT "str" (.int i) = .ok (.bl false) := by simp [isT, clsD]
theorem isT_str_str (x : Str) : isT "str" (.str x) = .ok (.bl true) := by simp [isT, clsD]
theorem isT_str_lst (xs : List D) : isT "str" (.lst xs) = .ok (.bl false) := by simp [isT, clsD]
theorem isT_str_tup (xs : List D) : isT "str" (.tup xs) = .ok (.bl false) := by simp [isT, clsD]
theorem isT_list_non  : isT "list" (.non) = .ok (.bl false) := by simp [isT, clsD]
theorem isT_list_bl (b : Bool) : isT "list" (.bl b) = .ok (.bl false) := by simp [isT, clsD]
theorem isT_list_int (i : Int) : isT "list" (.int i) = .ok (.bl false) := by simp [isT, clsD]
theorem isT_list_str (x : Str) : isT "list" (.str x) = .ok (.bl false) := by simp [isT, clsD]
theorem isT_list_lst (xs : List D) : isT "list" (.lst xs) = .ok (.bl true) := by simp [isT, clsD]
theorem isT_list_tup (xs : List D) : isT "list" (.tup xs) = .ok (.bl false) := by simp [isT, clsD]
theorem isT_tuple_non  : isT "tuple" (.non) = .ok (.bl false) := by simp [isT, clsD]
theorem isT_tuple_bl (b : Bool) : isT "tuple" (.bl b) = .ok (.bl false) := by simp [isT, clsD]
theorem isT_tuple_int (i : Int) : isT "tuple" (.int i) = .ok (.bl false) := by simp [isT, clsD]
theorem isT_tuple_str (x : Str) : isT "tuple" (.str x) = .ok (.bl false) := by simp [isT, clsD]
theorem isT_tuple_lst (xs : List D) : isT "tuple" (.lst xs) = .ok (.bl false) := by simp [isT, clsD]
theorem isT_tuple_tup (xs : List D) : isT "tuple" (.tup xs) = .ok (.bl true) := by simp [isT, clsD]

theorem modD_pos {i j : Int} (h : 0 < j) : modD (.int i) (.int j) = .ok (.int (i % j)) := by unfold modD; simp only; rw [if_pos h]
theorem fdivD_big {i j : Int} (h : 0 < j) (h2 : j.natAbs < 2 ^ 9000) : fdivD (.int i) (.int j) = .ok (.int (i / j)) := by
  unfold fdivD
  simp only
  rw [if_pos ⟨h, by
    have e : j.natAbs ≠ 0 := by omega
    exact (Nat.log2_lt e).mpr h2⟩]
theorem e64 : (2 : Nat) ^ 64 = 18446744073709551616 := by decide
theorem lt9000 {n : Nat} (h : n < 2 ^ 64) : n < 2 ^ 9000 := Nat.lt_trans h (Nat.pow_lt_pow_right (by decide) (by decide))
theorem fdivD_pos {i j : Int} (h : 0 < j) (h2 : j < 18446744073709551616) : fdivD (.int i) (.int j) = .ok (.int (i / j)) := fdivD_big h (lt9000 (by rw [e64]; omega))
theorem powD_ok {i j : Int} (h : 0 ≤ j) (h2 : j ≤ 1000000) (h3 : -18446744073709551616 < i) (h4 : i < 18446744073709551616) : powD (.int i) (.int j) = .ok (.int (i ^ j.toNat)) := by
  unfold powD; simp only; rw [if_pos ⟨h, bits_mul_le (by rw [e64]; omega) h h2⟩]
theorem powD_big {i j : Int} {n : Nat} (h : 0 ≤ j) (h2 : i.natAbs < 2 ^ n) (h3 : (n : Int) * j ≤ 134217728) : powD (.int i) (.int j) = .ok (.int (i ^ j.toNat)) := by
  have hb : Builtin.Int.intBits i ≤ n := intBits_le_iff.mpr h2
  have h4 : (Builtin.Int.intBits i : Int) * j ≤ (n : Int) * j := Int.mul_le_mul_of_nonneg_right (by omega) h
  have h5 : (2 : Int) ^ 27 = 134217728 := by decide
  unfold powD; simp only; rw [if_pos ⟨h, by omega⟩]
theorem shlD_ok {i j : Int} (h : 0 ≤ j) (h2 : j ≤ 1000000) (h3 : -18446744073709551616 < i) (h4 : i < 18446744073709551616) : shlD (.int i) (.int j) = .ok (.int (i * 2 ^ j.toNat)) := by
  unfold shlD; simp only; rw [if_pos ⟨h, bits_add_le (by rw [e64]; omega) h2⟩]
theorem shrD_ok {i j : Int} (h : 0 ≤ j) : shrD (.int i) (.int j) = .ok (.int (i / 2 ^ j.toNat)) := by unfold shrD; simp only; rw [if_pos h]
theorem mulD_ok {i j : Int} (h : mulOk i j) : mulD (.int i) (.int j) = .ok (.int (i * j)) := by unfold mulD; simp only; rw [if_pos h]
/-- of at most n bits -/
structure Bits (n : Nat) (z : Int) : Prop where
  lt : z.natAbs < 2 ^ n
theorem Bits.mono {n m : Nat} {z : Int} (h : Bits n z) (k : n ≤ m) : Bits m z := ⟨Nat.lt_of_lt_of_le h.lt (Nat.pow_le_pow_right (by decide) k)⟩
theorem Bits.of64 {z : Int} (h3 : -18446744073709551616 < z) (h4 : z < 18446744073709551616) : Bits 64 z := ⟨by rw [e64]; omega⟩
theorem Bits.mul {n m : Nat} {y z : Int} (h : Bits n y) (k : Bits m z) : Bits (n + m) (y * z) := ⟨by
  rw [Int.natAbs_mul, Nat.pow_add]
  exact Nat.mul_lt_mul'' h.lt k.lt⟩
theorem Bits.add {n : Nat} {y z : Int} (h : Bits n y) (k : Bits n z) : Bits (n + 1) (y + z) := ⟨by
  have h1 := h.lt
  have h2 := k.lt
  rw [Nat.pow_succ]
  omega⟩
theorem Bits.sub {n : Nat} {y z : Int} (h : Bits n y) (k : Bits n z) : Bits (n + 1) (y - z) := ⟨by
  have h1 := h.lt
  have h2 := k.lt
  rw [Nat.pow_succ]
  omega⟩
theorem Bits.neg {n : Nat} {z : Int} (h : Bits n z) : Bits n (-z) := ⟨by rw [Int.natAbs_neg]; exact h.lt⟩
theorem Bits.le {n : Nat} {y z : Int} (h : Bits n z) (k : y.natAbs ≤ z.natAbs) : Bits n y := ⟨Nat.lt_of_le_of_lt k h.lt⟩
theorem Bits.pow2 (k : Nat) : Bits (k + 1) (2 ^ k) := ⟨by
  rw [Int.natAbs_pow]
  exact Nat.pow_lt_pow_right (by decide) (Nat.lt_succ_self _)⟩
theorem Bits.of_int {z : Int} {n : Nat} (h : Builtin.Int.intBits z ≤ n) : Bits n z := ⟨bits_lt h⟩
theorem Bits.ok {n m : Nat} {y z : Int} (h : Bits n y) (k : Bits m z) (l : n + m ≤ 134000000 := by decide) : mulOk y z := mulOk_of h.lt k.lt l

/-! range with a step -/
theorem rangeSize_bd {i j c : Int} (hc : 0 < c) : 0 ≤ Builtin.Range.rangeSize i j c ∧ (Builtin.Range.rangeSize i j c = 0 ∨ Builtin.Range.rangeSize i j c ≤ j - i) := by
  unfold Builtin.Range.rangeSize
  rw [if_pos hc]
  split
  · have h1 := Int.ediv_nonneg (a := j - i - 1) (b := c) (by omega) (by omega)
    have h2 : (j - i - 1) / c ≤ j - i - 1 := Int.ediv_le_self _ (by omega)
    omega
  · omega
theorem okRange_pos {i j c : Int} (bi : bnd i) (bj : bnd j) (hc : 0 < c) (hc2 : c < 1073741824) : okRange i j c := by
  obtain ⟨h1, h2⟩ := rangeSize_bd (i := i) (j := j) hc
  obtain ⟨b1, b2⟩ := bi
  obtain ⟨b3, b4⟩ := bj
  refine ⟨by omega, by omega, ?_⟩
  have e62 : (2 : Int) ^ 62 = 4611686018427387904 := by decide
  have e63 : (2 : Int) ^ 63 = 9223372036854775808 := by decide
  rw [e62] at b1 b2 b3 b4
  unfold Builtin.Range.small Builtin.Range.rangeFitsLong
  simp only [Bool.and_eq_true, Bool.or_eq_true, decide_eq_true_eq, beq_iff_eq, e63, gt_iff_lt, if_pos hc]
  omega
theorem rngS_pos {i j c : Int} (bi : bnd i) (bj : bnd j) (hc : 0 < c) (hc2 : c < 1073741824) : rngS [.int i, .int j, .int c] = .ok (rngC i c (Builtin.Range.rangeSize i j c).toNat) := by
  unfold rngS
  simp only
  rw [if_pos (okRange_pos bi bj hc hc2)]
theorem rng1_ok {j : Int} (bj : bnd j) : rng1 [.int j] = .ok (rngL 0 j.toNat) := by unfold rng1; simp only; rw [if_pos bj]
theorem rng2_ok {i j : Int} (bi : bnd i) (bj : bnd j) : rng2 [.int i, .int j] = .ok (rngL i (j - i).toNat) := by unfold rng2; simp only; rw [if_pos ⟨bi, bj⟩]
theorem bnd_of {j : Int} (h : -4611686018427387904 ≤ j) (h2 : j < 4611686018427387904) : bnd j := by
  have e62 : (2 : Int) ^ 62 = 4611686018427387904 := by decide
  unfold bnd
  rw [e62]
  omega

/-! loops and comprehensions -/
/-- a loop whose turns all go on: an invariant by the turn -/
theorem forL_nx {tf : D → Env → Option Env} {b : Env → Sr} (I : Nat → Env → Prop) : ∀ {ds : List D} {ρ : Env} (n : Nat), I n ρ →
    (∀ i d ρ, ds[i]? = some d → I (n + i) ρ → ∃ ρ1 ρ2, tf d ρ = some ρ1 ∧ (b ρ1 = .nx ρ2 ∨ b ρ1 = .ct ρ2) ∧ I (n + i + 1) ρ2) → ∃ ρ', forL tf b ds ρ = .nx ρ' ∧ I (n + ds.length) ρ'
  | [], ρ, n, h, _ => ⟨ρ, rfl, h⟩
  | d :: ds, ρ, n, h, k => by
    obtain ⟨ρ1, ρ2, h1, h2, h3⟩ := k 0 d ρ rfl h
    obtain ⟨ρ', q1, q2⟩ := forL_nx I (ds := ds) (ρ := ρ2) (n + 1) h3 fun i d ρ hd hi => by
      have := k (i + 1) d ρ (by simpa using hd) (by rw [← Nat.add_assoc, Nat.add_right_comm]; exact hi)
      rw [← Nat.add_assoc, Nat.add_right_comm n i 1] at this
      exact this
    refine ⟨ρ', ?_, by rw [List.length_cons, Nat.add_comm ds.length 1, ← Nat.add_assoc]; exact q2⟩
    unfold forL
    rw [h1]
    simp only
    rcases h2 with e | e <;> rw [e] <;> exact q1
theorem forL_i {tf : D → Env → Option Env} {b : Env → Sr} (I : Nat → Env → Prop) {ds : List D} {ρ : Env} (h : I 0 ρ)
    (k : ∀ i d ρ, ds[i]? = some d → I i ρ → ∃ ρ1 ρ2, tf d ρ = some ρ1 ∧ (b ρ1 = .nx ρ2 ∨ b ρ1 = .ct ρ2) ∧ I (i + 1) ρ2) : ∃ ρ', forL tf b ds ρ = .nx ρ' ∧ I ds.length ρ' := by
  obtain ⟨ρ', h1, h2⟩ := forL_nx I 0 h fun i d ρ hd hi => by
    rw [Nat.zero_add] at hi ⊢
    exact k i d ρ hd hi
  exact ⟨ρ', h1, by rw [Nat.zero_add] at h2; exact h2⟩
/-- a turn that goes on, to where I holds -/
def Go (I : Env → Prop) : Sr → Prop
  | .nx ρ => I ρ
  | .ct ρ => I ρ
  | _ => False
theorem Go_nx {I : Env → Prop} {ρ : Env} : Go I (.nx ρ) = I ρ := rfl
theorem Go_ct {I : Env → Prop} {ρ : Env} : Go I (.ct ρ) = I ρ := rfl
theorem body_for {tf : D → Env → Option Env} {b q : Env → Sr} {ds : List D} {ρ : Env} {x : R D} (I : Env → Prop) (h : I ρ)
    (k : ∀ d ∈ ds, ∀ ρ, I ρ → ∃ ρ1, tf d ρ = some ρ1 ∧ Go I (b ρ1)) (fin : ∀ ρ, I ρ → bodyR (q ρ) = x) : bodyR ((forL tf b ds ρ).seq q) = x := by
  obtain ⟨ρ', h1, h2⟩ := forL_i (tf := tf) (b := b) (ds := ds) (fun _ => I) h fun i d ρ hd hi => by
    obtain ⟨ρ1, e1, e2⟩ := k d (List.mem_of_getElem? hd) ρ hi
    cases hb : b ρ1 with
    | nx ρ2 => rw [hb] at e2; exact ⟨ρ1, ρ2, e1, .inl hb, e2⟩
    | ct ρ2 => rw [hb] at e2; exact ⟨ρ1, ρ2, e1, .inr hb, e2⟩
    | st => rw [hb] at e2; exact e2.elim
    | rt d => rw [hb] at e2; exact e2.elim
    | rb d ρ2 => rw [hb] at e2; exact e2.elim
    | bk ρ2 => rw [hb] at e2; exact e2.elim
    | ex c => rw [hb] at e2; exact e2.elim
  rw [h1]
  exact fin ρ' h2
/-- a loop by a state of one's own: enc tells the slots -/
theorem forL_enc {α : Type} {tf : D → Env → Option Env} {b : Env → Sr} (enc : α → Env → Prop) (step : α → D → α) : ∀ {ds : List D} {ρ : Env} {a : α}, enc a ρ →
    (∀ d ∈ ds, ∀ a ρ, enc a ρ → ∃ ρ1 ρ2, tf d ρ = some ρ1 ∧ (b ρ1 = .nx ρ2 ∨ b ρ1 = .ct ρ2) ∧ enc (step a d) ρ2) → ∃ ρ', forL tf b ds ρ = .nx ρ' ∧ enc (ds.foldl step a) ρ'
  | [], ρ, a, h, _ => ⟨ρ, rfl, h⟩
  | d :: ds, ρ, a, h, k => by
    obtain ⟨ρ1, ρ2, h1, h2, h3⟩ := k d List.mem_cons_self a ρ h
    obtain ⟨ρ', q1, q2⟩ := forL_enc enc step (ds := ds) h3 fun d hd => k d (List.mem_cons_of_mem _ hd)
    refine ⟨ρ', ?_, q2⟩
    unfold forL
    rw [h1]
    simp only
    rcases h2 with e | e <;> rw [e] <;> exact q1
theorem rngC_mem {lo c : Int} {n : Nat} {d : D} (h : d ∈ rngC lo c n) : ∃ i : Nat, i < n ∧ d = .int (lo + (i : Int) * c) := by
  obtain ⟨i, h1, h2⟩ := List.mem_map.mp h
  exact ⟨i, List.mem_range.mp h1, h2.symm⟩
theorem rngL_mem {lo : Int} {n : Nat} {d : D} (h : d ∈ rngL lo n) : ∃ i : Nat, i < n ∧ d = .int (lo + (i : Int)) := by
  obtain ⟨i, h1, h2⟩ := List.mem_map.mp h
  exact ⟨i, List.mem_range.mp h1, h2.symm⟩
/-- a comprehension without a test -/
theorem lcL_map {vs : List Nat} {tf : D → Env → Option Env} {f : Env → R D} {ρ : Env} (g : D → D) : ∀ {ds : List D}, (∀ d ∈ ds, ∃ ρ1, tf d (wipeD ρ vs) = some ρ1 ∧ f ρ1 = .ok (g d)) → lcL vs tf yesT f ρ ds = .ok (ds.map g)
  | [], _ => rfl
  | d :: ds, k => by
    obtain ⟨ρ1, h1, h2⟩ := k d List.mem_cons_self
    have ih := lcL_map g (ds := ds) fun d hd => k d (List.mem_cons_of_mem _ hd)
    unfold lcL
    rw [h1]
    simp only [yesT, nox, R.bind_ok, if_true, h2, ih, List.map_cons]
theorem lcE_map {vs : List Nat} {fi : Env → R (List D)} {tf : D → Env → Option Env} {f : Env → R D} {ρ : Env} {ds : List D} (g : D → D) (hi : fi ρ = .ok ds) (hl : ds.length ≤ sizeLine) (h : ∀ d ∈ ds, ∃ ρ1, tf d (wipeD ρ vs) = some ρ1 ∧ f ρ1 = .ok (g d)) :
    lcE vs fi tf yesT f ρ = .ok (.lst (ds.map g)) := by
  unfold lcE
  rw [hi, R.bind_ok, if_pos hl, lcL_map g h, R.bind_ok]
theorem le_line1000 {n : Nat} (h : n ≤ 16000000) : n ≤ sizeLine := by rw [sizeLine_eq]; omega
theorem rngC_length (lo c : Int) (n : Nat) : (rngC lo c n).length = n := by simp [rngC]
theorem rngL_length (lo : Int) (n : Nat) : (rngL lo n).length = n := by simp [rngL]
theorem intsO_map : ∀ ns : List Int, intsO (ns.map D.int) = some ns
  | [] => rfl
  | n :: ns => by rw [List.map_cons, intsO, intsO_map ns]; rfl
theorem atI_int {ns : List Int} {k : Int} (h0 : 0 ≤ k) (h : k < ns.length) : atI (ns.map D.int) k = some (.int (ns.getD k.toNat 0)) := by
  rw [atI_lt h0 (by rw [List.length_map]; exact h), List.getElem?_map]
  have hk : k.toNat < ns.length := by omega
  rw [List.getElem?_eq_getElem hk, List.getD_eq_getElem?_getD, List.getElem?_eq_getElem hk]
  rfl
theorem ixD_ints {ns : List Int} {k : Int} (h0 : 0 ≤ k) (h : k < ns.length) : ixD (.lst (ns.map D.int)) (.int k) = .ok (.int (ns.getD k.toNat 0)) := by
  unfold ixD
  simp only
  rw [atI_int h0 h]
/-! places of a written row -/
theorem ix0_lst (a : D) (l : List D) : ixD (.lst (a :: l)) (.int 0) = .ok a := ixD_lst (by decide) rfl
theorem ix0_tup (a : D) (l : List D) : ixD (.tup (a :: l)) (.int 0) = .ok a := ixD_tup (by decide) rfl
theorem ix1_lst (a b : D) (l : List D) : ixD (.lst (a :: b :: l)) (.int 1) = .ok b := ixD_lst (by decide) rfl
theorem ix1_tup (a b : D) (l : List D) : ixD (.tup (a :: b :: l)) (.int 1) = .ok b := ixD_tup (by decide) rfl
theorem ix2_lst (a b c : D) (l : List D) : ixD (.lst (a :: b :: c :: l)) (.int 2) = .ok c := ixD_lst (by decide) rfl
theorem ix2_tup (a b c : D) (l : List D) : ixD (.tup (a :: b :: c :: l)) (.int 2) = .ok c := ixD_tup (by decide) rfl
theorem ix3_lst (a b c d : D) (l : List D) : ixD (.lst (a :: b :: c :: d :: l)) (.int 3) = .ok d := ixD_lst (by decide) rfl
theorem ix3_tup (a b c d : D) (l : List D) : ixD (.tup (a :: b :: c :: d :: l)) (.int 3) = .ok d := ixD_tup (by decide) rfl
theorem ix4_lst (a b c d e : D) (l : List D) : ixD (.lst (a :: b :: c :: d :: e :: l)) (.int 4) = .ok e := ixD_lst (by decide) rfl
theorem ix4_tup (a b c d e : D) (l : List D) : ixD (.tup (a :: b :: c :: d :: e :: l)) (.int 4) = .ok e := ixD_tup (by decide) rfl
theorem ix5_lst (a b c d e f : D) (l : List D) : ixD (.lst (a :: b :: c :: d :: e :: f :: l)) (.int 5) = .ok f := ixD_lst (by decide) rfl
theorem ix5_tup (a b c d e f : D) (l : List D) : ixD (.tup (a :: b :: c :: d :: e :: f :: l)) (.int 5) = .ok f := ixD_tup (by decide) rfl
/-! equality of like data -/
inductive Fl : Nat → D → Prop where
  | non {n : Nat} : Fl n .non
  | bl {n : Nat} (b : Bool) : Fl n (.bl b)
  | int {n : Nat} (i : Int) : Fl n (.int i)
  | str {n : Nat} (x : Str) (h : PyData.strOk x = true) : Fl n (.str x)
  | lst {n : Nat} {xs : List D} (h : ∀ x ∈ xs, Fl n x) : Fl (n + 1) (.lst xs)
  | tup {n : Nat} {xs : List D} (h : ∀ x ∈ xs, Fl n x) : Fl (n + 1) (.tup xs)
def FlP (n : Nat) (p : PyData) : Prop := p.canLay0 = true ∧ p.depth ≤ n ∧ PyData.eqv p p = true
theorem flPs {n : Nat} : ∀ {xs : List D}, (∀ x ∈ xs, FlP n (pyD x)) → PyData.canLayAll0 (pyDs xs) = true ∧ PyData.depthAll (pyDs xs) ≤ n ∧ PyData.eqvAll (pyDs xs) (pyDs xs) = true
  | [], _ => ⟨by simp only [pyDs, PyData.canLayAll0], by simp only [pyDs, PyData.depthAll]; omega, by simp only [pyDs, PyData.eqvAll]⟩
  | x :: xs, h => by
    obtain ⟨a1, a2, a3⟩ := h x List.mem_cons_self
    obtain ⟨b1, b2, b3⟩ := flPs (xs := xs) fun y hy => h y (List.mem_cons_of_mem _ hy)
    refine ⟨?_, ?_, ?_⟩
    · simp only [pyDs, PyData.canLayAll0, a1, b1, Bool.and_self]
    · simp only [pyDs, PyData.depthAll]; omega
    · simp only [pyDs, PyData.eqvAll, a3, b3, Bool.and_self]
theorem Fl.p {n : Nat} {d : D} (h : Fl n d) : FlP n (pyD d) := by
  induction h with
  | non => exact ⟨by simp only [pyD, PyData.canLay0], by simp only [pyD, PyData.depth]; omega, by simp only [pyD, PyData.eqv]⟩
  | bl b => exact ⟨by simp only [pyD, PyData.canLay0], by simp only [pyD, PyData.depth]; omega, by simp only [pyD, PyData.eqv]; exact beq_self_eq_true b⟩
  | int i => exact ⟨by simp only [pyD, PyData.canLay0], by simp only [pyD, PyData.depth]; omega, by simp only [pyD, PyData.eqv]; exact beq_self_eq_true i⟩
  | str x h => exact ⟨by simp only [pyD, PyData.canLay0]; exact h, by simp only [pyD, PyData.depth]; omega, by simp only [pyD, PyData.eqv]; first | exact beq_self_eq_true x | simp⟩
  | lst _ ih =>
    obtain ⟨b1, b2, b3⟩ := flPs ih
    exact ⟨by simp only [pyD, PyData.canLay0]; exact b1, by simp only [pyD, PyData.depth]; omega, by simp only [pyD, PyData.eqv]; exact b3⟩
  | tup _ ih =>
    obtain ⟨b1, b2, b3⟩ := flPs ih
    exact ⟨by simp only [pyD, PyData.canLay0]; exact b1, by simp only [pyD, PyData.depth]; omega, by simp only [pyD, PyData.eqv]; exact b3⟩
theorem Fl.shaped {n : Nat} {d : D} (h : Fl n d) (hn : n ≤ 64) : SeqAt.shaped (pyD d) = true := by
  obtain ⟨a1, a2, _⟩ := h.p
  show ((pyD d).canLay0 && decide ((pyD d).depth ≤ 64)) = true
  rw [a1, decide_eq_true (Nat.le_trans a2 hn)]
  rfl
theorem eqD_self {d : D} {n : Nat} (h : Fl n d) (hn : n ≤ 64) : eqD d d = .ok (.bl true) := by
  unfold eqD
  rw [if_pos ⟨h.shaped hn, h.shaped hn⟩, show eqB d d = true from h.p.2.2]
theorem neD_self {d : D} {n : Nat} (h : Fl n d) (hn : n ≤ 64) : neD d d = .ok (.bl false) := by
  unfold neD
  rw [if_pos ⟨h.shaped hn, h.shaped hn⟩, show eqB d d = true from h.p.2.2]
  rfl
theorem fl_ints {n : Nat} (ns : List Int) : ∀ x ∈ ns.map D.int, Fl n x := fun x hx => by
  obtain ⟨i, _, h⟩ := List.mem_map.mp hx
  subst h
  exact .int i
theorem fl_pair {n : Nat} (a b : Int) : Fl (n + 1) (.tup [.int a, .int b]) := .tup (fl_ints [a, b])
theorem eqD_pair (a b : Int) : eqD (.tup [.int a, .int b]) (.tup [.int a, .int b]) = .ok (.bl true) := eqD_self (n := 1) (fl_pair a b) (by decide)
theorem neD_pair (a b : Int) : neD (.tup [.int a, .int b]) (.tup [.int a, .int b]) = .ok (.bl false) := neD_self (n := 1) (fl_pair a b) (by decide)
theorem addD_int (i j : Int) : addD (.int i) (.int j) = .ok (.int (i + j)) := rfl
theorem subD_int (i j : Int) : subD (.int i) (.int j) = .ok (.int (i - j)) := rfl
theorem ltD_int (i j : Int) : ltD (.int i) (.int j) = .ok (.bl (decide (i < j))) := rfl
theorem leD_int (i j : Int) : leD (.int i) (.int j) = .ok (.bl (decide (i ≤ j))) := rfl
theorem gtD_int (i j : Int) : gtD (.int i) (.int j) = .ok (.bl (decide (j < i))) := rfl
theorem geD_int (i j : Int) : geD (.int i) (.int j) = .ok (.bl (decide (j ≤ i))) := rfl
theorem negD_int (i : Int) : negD (.int i) = .ok (.int (-i)) := rfl
theorem lenD_lst (xs : List D) : lenD [.lst xs] = .ok (.int xs.length) := rfl
theorem lenD_tup (xs : List D) : lenD [.tup xs] = .ok (.int xs.length) := rfl
theorem absD_int (i : Int) : absD [.int i] = .ok (.int (if i < 0 then -i else i)) := rfl
theorem len_2 (a b : D) : (([a, b] : List D).length : Int) = 2 := rfl
theorem len_1 (a : D) : (([a] : List D).length : Int) = 1 := rfl
theorem len_3 (a b c : D) : (([a, b, c] : List D).length : Int) = 3 := rfl
theorem len_0 : ((([] : List D)).length : Int) = 0 := rfl
def chK (k : D → R D) (r : R D) : D → R D
  | .bl true => r.bind k
  | .bl false => .ok (.bl false)
  | _ => .st
theorem chD_eq (gd gd' : D → D → R D) (f g h : Env → R D) (ρ : Env) : chD gd gd' f g h ρ = (f ρ).bind fun x => (g ρ).bind fun y => (gd x y).bind (chK (gd' y) (h ρ)) := by
  unfold chD
  have e : ∀ y, (fun z : D => match z with | .bl true => (h ρ).bind fun w => gd' y w | .bl false => .ok (.bl false) | _ => .st) = chK (gd' y) (h ρ) := fun y => by
    funext z
    unfold chK
    rfl
  rfl
theorem chK_bl (k : D → R D) (r : R D) (p : Bool) : chK k r (.bl p) = if p = true then r.bind k else .ok (.bl false) := by cases p <;> rfl
theorem ite_bl (P : Prop) [Decidable P] (q : Bool) : (if P then R.ok (D.bl q) else R.ok (D.bl false)) = R.ok (D.bl (decide P && q)) := by
  by_cases h : P
  · rw [if_pos h, decide_eq_true h]; rfl
  · rw [if_neg h, decide_eq_false h]; rfl
theorem eqD_bl (b : Bool) : eqD (.bl b) (.bl b) = .ok (.bl true) := eqD_self (n := 0) (.bl b) (by decide)
theorem maxD_int (i j : Int) : maxD [.int i, .int j] = .ok (.int (maxI i j)) := rfl
theorem minD_int (i j : Int) : minD [.int i, .int j] = .ok (.int (minI i j)) := rfl
theorem maxD_l2 (i j : Int) : maxD [.lst [.int i, .int j]] = .ok (.int (maxI i j)) := rfl
theorem minD_l2 (i j : Int) : minD [.lst [.int i, .int j]] = .ok (.int (minI i j)) := rfl
/-! rows of ints -/
theorem listD_ints (ns : List Int) : listD [.lst (ns.map D.int)] = .ok (.lst (ns.map D.int)) := by
  unfold listD; simp only; rw [if_pos (immDs_ints ns)]
theorem ixN_lt {n : Nat} {k : Int} (h0 : 0 ≤ k) (h : k < n) : ixN n k = some k.toNat := by unfold ixN; rw [if_pos h0, if_pos h]
theorem setS_ints {i : Nat} {fk fe : Env → R D} {ρ : Env} {ns : List Int} {k v : Int} (he : fe ρ = .ok (.int v)) (hρ : ρ[i]? = some (some (.lst (ns.map D.int)))) (hk : fk ρ = .ok (.int k)) (h0 : 0 ≤ k) (h : k < ns.length) :
    setS i fk fe ρ = .nx (ρ.set i (some (.lst ((ns.set k.toNat v).map D.int)))) := by
  unfold setS
  rw [he]
  simp only [bindS_ok]
  rw [hρ]
  simp only
  rw [hk]
  simp only [bindS_ok]
  rw [ixN_lt h0 (by rw [List.length_map]; exact h)]
  simp only
  rw [List.map_set]
theorem appS_ints {i : Nat} {f : Env → R D} {ρ : Env} {ns : List Int} {v : Int} (he : f ρ = .ok (.int v)) (hρ : ρ[i]? = some (some (.lst (ns.map D.int)))) (h : ns.length < 16000000) :
    appS i f ρ = .nx (ρ.set i (some (.lst ((ns ++ [v]).map D.int)))) := by
  unfold appS
  rw [hρ]
  simp only
  rw [he]
  simp only [bindS_ok]
  rw [if_pos (by rw [sizeLine_eq, List.length_map]; omega), List.map_append]
  rfl
theorem rangeSize_spec {i j c : Int} (hc : 0 < c) : (∀ t : Nat, t < (Builtin.Range.rangeSize i j c).toNat → i + (t : Int) * c < j) ∧ j ≤ i + ((Builtin.Range.rangeSize i j c).toNat : Int) * c := by
  unfold Builtin.Range.rangeSize
  rw [if_pos hc]
  split
  · rename_i h
    have h1 := Int.mul_ediv_self_le (x := j - i - 1) (k := c) (by omega)
    have h2 := Int.lt_mul_ediv_self_add (x := j - i - 1) (k := c) hc
    have h3 := Int.ediv_nonneg (a := j - i - 1) (b := c) (by omega) (by omega)
    generalize (j - i - 1) / c = q at *
    rw [Int.mul_comm] at h1 h2
    constructor
    · intro t ht
      have := Int.mul_le_mul_of_nonneg_right (show (t : Int) ≤ q by omega) (show 0 ≤ c by omega)
      omega
    · rw [Int.toNat_of_nonneg (by omega), Int.add_mul, Int.one_mul]
      omega
  · rename_i h
    constructor
    · intro t ht
      exact absurd ht (by simp)
    · simp only [Int.toNat_zero]
      omega
theorem rngC_at {lo c : Int} {n i : Nat} {d : D} (h : (rngC lo c n)[i]? = some d) : i < n ∧ d = .int (lo + (i : Int) * c) := by
  have h1 := (List.getElem?_eq_some_iff.mp h).1
  rw [rngC_length] at h1
  refine ⟨h1, ?_⟩
  unfold rngC at h
  rw [List.getElem?_map, List.getElem?_range h1] at h
  exact (Option.some.inj h).symm
theorem rngL_at {lo : Int} {n i : Nat} {d : D} (h : (rngL lo n)[i]? = some d) : i < n ∧ d = .int (lo + (i : Int)) := by
  have h1 := (List.getElem?_eq_some_iff.mp h).1
  rw [rngL_length] at h1
  refine ⟨h1, ?_⟩
  unfold rngL at h
  rw [List.getElem?_map, List.getElem?_range h1] at h
  exact (Option.some.inj h).symm
/-- a loop by its turns -/
theorem forL_go {tf : D → Env → Option Env} {b : Env → Sr} {ds : List D} {ρ : Env} (I : Nat → Env → Prop) (h : I 0 ρ)
    (k : ∀ i d, ds[i]? = some d → ∀ ρ, I i ρ → ∃ ρ1, tf d ρ = some ρ1 ∧ Go (I (i + 1)) (b ρ1)) : ∃ ρ', forL tf b ds ρ = .nx ρ' ∧ I ds.length ρ' := by
  refine forL_i (tf := tf) (b := b) (ds := ds) I h fun i d ρ hd hi => ?_
  obtain ⟨ρ1, e1, e2⟩ := k i d hd ρ hi
  cases hb : b ρ1 with
  | nx ρ2 => rw [hb] at e2; exact ⟨ρ1, ρ2, e1, .inl hb, e2⟩
  | ct ρ2 => rw [hb] at e2; exact ⟨ρ1, ρ2, e1, .inr hb, e2⟩
  | st => rw [hb] at e2; exact e2.elim
  | rt d => rw [hb] at e2; exact e2.elim
  | rb d ρ2 => rw [hb] at e2; exact e2.elim
  | bk ρ2 => rw [hb] at e2; exact e2.elim
  | ex c => rw [hb] at e2; exact e2.elim
theorem body_forI {tf : D → Env → Option Env} {b q : Env → Sr} {ds : List D} {ρ : Env} {x : R D} (I : Nat → Env → Prop) (h : I 0 ρ)
    (k : ∀ i d, ds[i]? = some d → ∀ ρ, I i ρ → ∃ ρ1, tf d ρ = some ρ1 ∧ Go (I (i + 1)) (b ρ1)) (fin : ∀ ρ, I ds.length ρ → bodyR (q ρ) = x) : bodyR ((forL tf b ds ρ).seq q) = x := by
  obtain ⟨ρ', h1, h2⟩ := forL_go I h k
  rw [h1]
  exact fin ρ' h2
theorem Go.seq {J : Env → Prop} {s : Sr} {q : Env → Sr} {I : Env → Prop} (h : ∃ ρ, s = .nx ρ ∧ J ρ) (k : ∀ ρ, J ρ → Go I (q ρ)) : Go I (s.seq q) := by
  obtain ⟨ρ, h1, h2⟩ := h
  rw [h1]
  exact k ρ h2
theorem Go.mono {I J : Env → Prop} {s : Sr} (h : Go I s) (k : ∀ ρ, I ρ → J ρ) : Go J s := by
  cases s with
  | nx ρ => exact k ρ h
  | ct ρ => exact k ρ h
  | st => exact h
  | rt d => exact h
  | rb d ρ2 => exact h
  | bk ρ => exact h
  | ex c => exact h
theorem maxD_ints (n : Int) (ns : List Int) : maxD [.lst ((n :: ns).map D.int)] = .ok (.int (maxL (n :: ns))) := by
  unfold maxD
  simp only
  rw [intsO_map]
theorem minD_ints (n : Int) (ns : List Int) : minD [.lst ((n :: ns).map D.int)] = .ok (.int (minL (n :: ns))) := by
  unfold minD
  simp only
  rw [intsO_map]
theorem foldl_maxI : ∀ (r : List Int) (x : Int), x ≤ r.foldl maxI x ∧ (∀ y ∈ r, y ≤ r.foldl maxI x) ∧ (r.foldl maxI x = x ∨ r.foldl maxI x ∈ r)
  | [], x => ⟨Int.le_refl _, (fun y h => nomatch h), .inl rfl⟩
  | y :: r, x => by
    obtain ⟨a1, a2, a3⟩ := foldl_maxI r (maxI x y)
    have h1 : x ≤ maxI x y ∧ y ≤ maxI x y ∧ (maxI x y = x ∨ maxI x y = y) := by
      unfold maxI
      split <;> omega
    rw [List.foldl_cons]
    refine ⟨by omega, fun z hz => ?_, ?_⟩
    · rcases List.mem_cons.mp hz with e | h
      · subst e; omega
      · exact a2 z h
    · rcases a3 with e | h
      · rcases h1.2.2 with g | g
        · exact .inl (e.trans g)
        · exact .inr (by rw [e, g]; exact List.mem_cons_self)
      · exact .inr (List.mem_cons_of_mem _ h)
theorem maxL_spec {ns : List Int} (h : ns ≠ []) : maxL ns ∈ ns ∧ ∀ y ∈ ns, y ≤ maxL ns := by
  cases ns with
  | nil => exact absurd rfl h
  | cons n ns =>
    obtain ⟨a1, a2, a3⟩ := foldl_maxI ns n
    refine ⟨?_, fun y hy => ?_⟩
    · show ns.foldl maxI n ∈ n :: ns
      rcases a3 with e | g
      · rw [e]; exact List.mem_cons_self
      · exact List.mem_cons_of_mem _ g
    · show y ≤ ns.foldl maxI n
      rcases List.mem_cons.mp hy with e | g
      · subst e; exact a1
      · exact a2 y g
theorem bls_map : ∀ bs : List Bool, bls (bs.map D.bl) = some bs
  | [] => rfl
  | b :: bs => by rw [List.map_cons, bls, bls_map bs]; rfl
theorem anyD_bls (bs : List Bool) : anyD [.lst (bs.map D.bl)] = .ok (.bl (bs.any id)) := by
  unfold anyD
  simp only
  rw [bls_map]
theorem allD_bls (bs : List Bool) : allD [.lst (bs.map D.bl)] = .ok (.bl (bs.all id)) := by
  unfold allD
  simp only
  rw [bls_map]
/-! rows lifted in place, of anything: at the places of half h each next thing is made of it and its neighbours at the stride -/
section lg
variable {α : Type}
def lgNew (z : α) (F : α → α → α → α) (xs : List α) (S p : Nat) : α :=
  if p < S ∧ xs.length ≤ p + S then xs.getD p z else
    F (xs.getD p z) (xs.getD (if p < S then p + S else p - S) z) (xs.getD (if xs.length ≤ p + S then p - S else p + S) z)
def lgAt (z : α) (F : α → α → α → α) (xs : List α) (S h b i : Nat) : α :=
  if i % S = 0 ∧ (i / S) % 2 = h ∧ i < b then lgNew z F xs S i else xs.getD i z
def lgB (z : α) (F : α → α → α → α) (xs : List α) (S h b : Nat) : List α := (List.range xs.length).map (lgAt z F xs S h b)
def lg (z : α) (F : α → α → α → α) (xs : List α) (S h : Nat) : List α := lgB z F xs S h xs.length
variable {z : α} {F : α → α → α → α} {xs : List α} {S h b t : Nat}
theorem lgB_length : (lgB z F xs S h b).length = xs.length := by simp [lgB]
theorem lg_length : (lg z F xs S h).length = xs.length := lgB_length
theorem lgB_getD {i : Nat} (hi : i < xs.length) : (lgB z F xs S h b).getD i z = lgAt z F xs S h b i := by
  unfold lgB
  rw [List.getD_eq_getElem?_getD, List.getElem?_map, List.getElem?_range hi]
  rfl
theorem lg_none {i : Nat} (hi : xs.length ≤ i) : xs.getD i z = z := by
  rw [List.getD_eq_getElem?_getD, List.getElem?_eq_none hi]
  rfl
theorem lgB_none {i : Nat} (k : i % S = 0 ∧ (i / S) % 2 = h ∧ i < b → False) : (lgB z F xs S h b).getD i z = xs.getD i z := by
  by_cases hi : i < xs.length
  · rw [lgB_getD hi]
    unfold lgAt
    rw [if_neg k]
  · rw [lg_none (by rw [lgB_length]; omega), lg_none (by omega)]
theorem lg_ext {xs ys : List α} (z : α) (hl : xs.length = ys.length) (k : ∀ i, i < xs.length → xs.getD i z = ys.getD i z) : xs = ys := by
  refine List.ext_getElem hl fun i h1 h2 => ?_
  have := k i h1
  rw [List.getD_eq_getElem?_getD, List.getD_eq_getElem?_getD, List.getElem?_eq_getElem h1, List.getElem?_eq_getElem h2] at this
  exact this
theorem lgB_start (hS : 0 < S) (hb : b ≤ h * S) (hh : h ≤ 1) : lgB z F xs S h b = xs := by
  refine lg_ext z lgB_length fun i hi => ?_
  rw [lgB_none]
  rintro ⟨h1, h2, h3⟩
  have h4 := Nat.div_add_mod i S
  have h5 : i / S < h := Nat.lt_of_mul_lt_mul_right (a := S) (by rw [Nat.mul_comm]; omega)
  generalize i / S = q at h2 h5
  omega
theorem lgB_end (hb : xs.length ≤ b) : lgB z F xs S h b = lg z F xs S h := by
  refine lg_ext z (by rw [lgB_length, lg_length]) fun i hi => ?_
  rw [lgB_length] at hi
  unfold lg
  rw [lgB_getD hi, lgB_getD hi]
  unfold lgAt
  simp only [hi, show i < b by omega, and_true]
theorem lg_hit (hS : 0 < S) (hh : h ≤ 1) : ((h + 2 * t) * S) % S = 0 ∧ (((h + 2 * t) * S) / S) % 2 = h := by
  rw [Nat.mul_mod_left, Nat.mul_div_cancel _ hS]
  exact ⟨rfl, by omega⟩
theorem lg_right (hS : 0 < S) (hh : h ≤ 1) : (((h + 2 * t) * S + S) / S) % 2 ≠ h := by
  rw [← Nat.succ_mul, Nat.mul_div_cancel _ hS]
  omega
theorem lg_left (hS : 0 < S) (hh : h ≤ 1) (hp : S ≤ (h + 2 * t) * S) : (((h + 2 * t) * S - S) / S) % 2 ≠ h := by
  have h1 : 1 ≤ h + 2 * t := by
    cases hk : h + 2 * t with
    | zero => rw [hk, Nat.zero_mul] at hp; omega
    | succ k => omega
  rw [show (h + 2 * t) * S - S = (h + 2 * t - 1) * S from (Nat.sub_one_mul _ _).symm, Nat.mul_div_cancel _ hS]
  omega
/-- at the next place the half lifted row still tells what the row told -/
theorem lg_step_new (hS : 0 < S) (hh : h ≤ 1) : lgNew z F (lgB z F xs S h ((h + 2 * t) * S)) S ((h + 2 * t) * S) = lgNew z F xs S ((h + 2 * t) * S) := by
  unfold lgNew
  rw [lgB_length]
  have e0 : (lgB z F xs S h ((h + 2 * t) * S)).getD ((h + 2 * t) * S) z = xs.getD ((h + 2 * t) * S) z := lgB_none fun k => Nat.lt_irrefl _ k.2.2
  rw [e0]
  split
  · rfl
  · rename_i hn
    have e1 : (lgB z F xs S h ((h + 2 * t) * S)).getD (if (h + 2 * t) * S < S then (h + 2 * t) * S + S else (h + 2 * t) * S - S) z = xs.getD (if (h + 2 * t) * S < S then (h + 2 * t) * S + S else (h + 2 * t) * S - S) z := by
      split
      · exact lgB_none fun ⟨_, k, _⟩ => lg_right hS hh k
      · exact lgB_none fun ⟨_, k, _⟩ => lg_left hS hh (by omega) k
    have e2 : (lgB z F xs S h ((h + 2 * t) * S)).getD (if xs.length ≤ (h + 2 * t) * S + S then (h + 2 * t) * S - S else (h + 2 * t) * S + S) z = xs.getD (if xs.length ≤ (h + 2 * t) * S + S then (h + 2 * t) * S - S else (h + 2 * t) * S + S) z := by
      split
      · exact lgB_none fun ⟨_, k, _⟩ => lg_left hS hh (by omega) k
      · exact lgB_none fun ⟨_, k, _⟩ => lg_right hS hh k
    rw [e1, e2]
theorem lg_step_set (hS : 0 < S) (hh : h ≤ 1) (hp : (h + 2 * t) * S < xs.length) :
    (lgB z F xs S h ((h + 2 * t) * S)).set ((h + 2 * t) * S) (lgNew z F xs S ((h + 2 * t) * S)) = lgB z F xs S h ((h + 2 * (t + 1)) * S) := by
  have e : (h + 2 * (t + 1)) * S = (h + 2 * t) * S + 2 * S := by rw [← Nat.add_mul]; congr 1
  refine lg_ext z (by rw [List.length_set, lgB_length, lgB_length]) fun i hi => ?_
  rw [List.length_set, lgB_length] at hi
  rw [List.getD_eq_getElem?_getD, List.getElem?_set]
  by_cases hq : (h + 2 * t) * S = i
  · rw [if_pos hq, if_pos (by rw [lgB_length]; omega), lgB_getD hi]
    unfold lgAt
    have := lg_hit (t := t) hS hh
    rw [hq] at this
    rw [if_pos ⟨this.1, this.2, by rw [e]; omega⟩, hq]
    rfl
  · rw [if_neg hq, ← List.getD_eq_getElem?_getD, lgB_getD hi, lgB_getD hi]
    unfold lgAt
    by_cases h1 : i % S = 0 ∧ (i / S) % 2 = h
    · have h4 := Nat.div_add_mod i S
      rw [h1.1, Nat.add_zero, Nat.mul_comm] at h4
      by_cases h2 : i < (h + 2 * t) * S
      · rw [if_pos ⟨h1.1, h1.2, h2⟩, if_pos ⟨h1.1, h1.2, by rw [e]; omega⟩]
      · rw [if_neg (fun k => h2 k.2.2), if_neg]
        rintro ⟨_, _, h3⟩
        have h5 : i / S < h + 2 * (t + 1) := Nat.lt_of_mul_lt_mul_right (a := S) (by omega)
        have h6 : ¬ i / S < h + 2 * t := fun h7 => h2 (by
          have := Nat.mul_lt_mul_of_pos_right h7 hS
          omega)
        have h7 : i / S = h + 2 * t := by omega
        rw [h7] at h4
        exact hq h4
    · rw [if_neg (fun k => h1 ⟨k.1, k.2.1⟩), if_neg (fun k => h1 ⟨k.1, k.2.1⟩)]
theorem lg_short (hl : xs.length ≤ S) : lg z F xs S h = xs := by
  refine lg_ext z lg_length fun i hi => ?_
  rw [lg_length] at hi
  unfold lg
  rw [lgB_getD hi]
  unfold lgAt
  split
  · unfold lgNew
    rw [if_pos ⟨by omega, by omega⟩]
  · rfl
def lgParts (z : α) (xs : List α) (S P : Nat) : List α := (List.range P).map fun k => xs.getD (k * S) z
theorem lgParts_length {P : Nat} : (lgParts z xs S P).length = P := by simp [lgParts]
theorem lgParts_getD {P k : Nat} (hk : k < P) : (lgParts z xs S P).getD k z = xs.getD (k * S) z := by
  unfold lgParts
  rw [List.getD_eq_getElem?_getD, List.getElem?_map, List.getElem?_range hk]
  rfl
theorem lgNew_k {P k : Nat} (hS : 0 < S) (hk : k < P) (hP : 1 < P) (h1 : ∀ t, t < P → t * S < xs.length) (h2 : xs.length ≤ P * S) :
    lgNew z F xs S (k * S) = F ((lgParts z xs S P).getD k z) ((lgParts z xs S P).getD (if k = 0 then 1 else k - 1) z) (if k + 1 < P then (lgParts z xs S P).getD (k + 1) z else (lgParts z xs S P).getD (if k = 0 then 1 else k - 1) z) := by
  have e1 : k * S < S ↔ k = 0 := ⟨fun h => by
    cases k with
    | zero => rfl
    | succ j => rw [Nat.succ_mul] at h; omega, fun h => by rw [h, Nat.zero_mul]; exact hS⟩
  have e2 : k * S + S = (k + 1) * S := (Nat.succ_mul k S).symm
  have e3 : xs.length ≤ k * S + S ↔ ¬ k + 1 < P := ⟨fun h h' => by have := h1 _ h'; omega, fun h => by
    have := Nat.mul_le_mul_right S (show P ≤ k + 1 by omega)
    omega⟩
  have e4 : k * S - S = (k - 1) * S := (Nat.sub_one_mul k S).symm
  unfold lgNew
  rw [e2, e4] at *
  rw [lgParts_getD hk]
  by_cases q1 : k = 0
  · have q2 : k + 1 < P := by omega
    rw [if_neg (fun z => e3.mp z.2 q2), if_pos (e1.mpr q1), if_neg (fun z => e3.mp z q2), if_pos q1, if_pos q2, lgParts_getD q2, lgParts_getD hP, q1]
  · rw [if_neg (fun z => q1 (e1.mp z.1)), if_neg (fun z => q1 (e1.mp z)), if_neg q1, lgParts_getD (show k - 1 < P by omega)]
    by_cases q2 : k + 1 < P
    · rw [if_neg (fun z => e3.mp z q2), if_pos q2, lgParts_getD q2]
    · rw [if_pos (e3.mpr q2), if_neg q2]
end lg
theorem body_forE {α : Type} {tf : D → Env → Option Env} {b q : Env → Sr} {ds : List D} {ρ : Env} {x : α → R D} {P : α → Prop} (I : Nat → Env → Prop) (h : I 0 ρ)
    (k : ∀ i d, ds[i]? = some d → ∀ ρ, I i ρ → ∃ ρ1, tf d ρ = some ρ1 ∧ Go (I (i + 1)) (b ρ1)) (fin : ∀ ρ, I ds.length ρ → ∃ a, bodyR (q ρ) = x a ∧ P a) : ∃ a, bodyR ((forL tf b ds ρ).seq q) = x a ∧ P a := by
  obtain ⟨ρ', h1, h2⟩ := forL_go I h k
  rw [h1]
  exact fin ρ' h2
theorem neD_str (x : Str) (h : PyData.strOk x = true) : neD (.str x) (.str x) = .ok (.bl false) := neD_self (n := 0) (.str x h) (by decide)
theorem eqD_str (x : Str) (h : PyData.strOk x = true) : eqD (.str x) (.str x) = .ok (.bl true) := eqD_self (n := 0) (.str x h) (by decide)
theorem eqD_ofFl {d e : D} {n : Nat} (h : Fl n d) (k : Fl n e) (hn : n ≤ 64) : eqD d e = .ok (.bl (eqB d e)) := by
  unfold eqD
  rw [if_pos ⟨h.shaped hn, k.shaped hn⟩]
theorem neD_ofFl {d e : D} {n : Nat} (h : Fl n d) (k : Fl n e) (hn : n ≤ 64) : neD d e = .ok (.bl (!eqB d e)) := by
  unfold neD
  rw [if_pos ⟨h.shaped hn, k.shaped hn⟩]
theorem eqB_lst_nil (x : D) (xs : List D) : eqB (.lst (x :: xs)) (.lst []) = false := by
  unfold eqB
  simp only [pyD, pyDs, PyData.eqv, PyData.eqvAll]
theorem eqB_nil : eqB (.lst []) (.lst []) = true := by
  unfold eqB
  simp only [pyD, pyDs, PyData.eqv, PyData.eqvAll]
theorem unpS_at {is : List Nat} {f : Env → R D} {ρ : Env} {ds : List D} (h : f ρ = .ok (.tup ds)) (hl : ds.length = is.length) : unpS is f ρ = .nx (putAll is ds ρ) := by
  unfold unpS
  rw [h, R.bind_ok]
  unfold unpR
  simp only
  rw [if_pos hl]
  rfl
end Vs

namespace Lw
open PySem PySem.Spec PyProof.Rows L2 Vs

def topS (i : Nat) : Stmt := PySem.Challenge.pw_liftwave_k39_least.main.body.getD i (.Pass ⟨0, 0, 0, 0⟩)
structure Txt (w : World) (K : PySem.W.Frag) (mg : Str → Option Value) : Prop where
  b_bool : mg "bool" = none
  b_int : mg "int" = none
  b_isinstance : mg "isinstance" = none
  b_len : mg "len" = none
/-! _law_cell_at -/
abbrev s_law_cell_at : Stmt := topS 3
theorem sc_law_cell_at : FnScope ["_law_script", "_law_k"] ["_law_script", "_law_k"] (defScope s_law_cell_at) := ⟨rfl, rfl, rfl, by decide +kernel, rfl, by decide +kernel, by decide +kernel⟩
noncomputable def b_law_cell_at : Vs.Env → Sr := (seqS (ifS (boolR (op2 ltD (varE 1) (callB lenD (consA (varE 0) nilA)))) (retS (imm (op2 ixD (varE 0) (varE 1)))) nilS)
    (retS (cE (.int 0))))
noncomputable def m_law_cell_at : List D → R D := runB 2 b_law_cell_at
theorem r_law_cell_at (x0 x1 : D) : m_law_cell_at [x0, x1] = bodyR (b_law_cell_at [some x0, some x1]) := rfl
theorem c_law_cell_at {P : Program} {w : World} {K : PySem.W.Frag} {mg : Str → Option Value} {base : Heap} (T : Txt w K mg) (F : Def K mg "_law_cell_at" s_law_cell_at) :
    Cal P w K mg base "_law_cell_at" ["_law_script", "_law_k"] 1 m_law_cell_at :=
  cal_mk (k := 0) (own' := []) (N := ["_law_script", "_law_k"]) (b := b_law_cell_at) F sc_law_cell_at (by decide) (fun _ _ _ _ _ _ us hl => match us, hl with | [_, _], _ => rfl) fun f cdv A outer s H E hr =>
      (vs_cons (vs_if (own' := []) (vt_cmp op_lt d_lt nx_lt (ve_var 1 (pv 1)) (VG.ve (vg_callB call_len cb_len nx_len rfl T.b_len PySem.boot_len (va_cons (ve_var 0 (pv 0)) va_nil))) (nomark _)) (vs_one (vs_ret (VE.vg (ve_ix (ve_var 0 (pv 0)) (ve_var 1 (pv 1)) (fun _ _ => rfl))))) vs_nil)
      (vs_one (vs_ret vg_int)))
/-! _law_whole -/
abbrev s_law_whole : Stmt := topS 4
theorem sc_law_whole : FnScope ["_law_found"] ["_law_found"] (defScope s_law_whole) := ⟨rfl, rfl, rfl, by decide +kernel, rfl, by decide +kernel, by decide +kernel⟩
noncomputable def b_law_whole : Vs.Env → Sr := (retS (andE (isiE "int" (varE 0)) (notE (isiE "bool" (varE 0)))))
noncomputable def m_law_whole : List D → R D := runB 1 b_law_whole
theorem r_law_whole (x0 : D) : m_law_whole [x0] = bodyR (b_law_whole [some x0]) := rfl
theorem c_law_whole {P : Program} {w : World} {K : PySem.W.Frag} {mg : Str → Option Value} {base : Heap} (T : Txt w K mg) (F : Def K mg "_law_whole" s_law_whole) :
    Cal P w K mg base "_law_whole" ["_law_found"] 1 m_law_whole :=
  cal_mk (k := 0) (own' := []) (N := ["_law_found"]) (b := b_law_whole) F sc_law_whole (by decide) (fun _ _ _ _ _ _ us hl => match us, hl with | [_], _ => rfl) fun f cdv A outer s H E hr =>
      (vs_one (vs_ret (vg_and (VG.ve (vg_isi k5_int rfl T.b_isinstance (pe_bltn (v := .ty "int") rfl T.b_int (by decide +kernel) rfl) (ve_var 0 (pv 0)))) (vg_one (vg_not (VG.ve (vg_isi k5_bool rfl T.b_isinstance (pe_bltn (v := .ty "bool") rfl T.b_bool (by decide +kernel) rfl) (ve_var 0 (pv 0)))))))))
/-! _law_noted -/
abbrev s_law_noted : Stmt := topS 5
theorem sc_law_noted : FnScope ["_law_asked", "_law_number", "_law_edge"] ["_law_asked", "_law_number", "_law_edge"] (defScope s_law_noted) := ⟨rfl, rfl, rfl, by decide +kernel, rfl, by decide +kernel, by decide +kernel⟩
noncomputable def b_law_noted : Vs.Env → Sr := (seqS (appS 0 (imm (varE 1)))
    (retB (op2 geD (varE 1) (varE 2))))
noncomputable def m_law_noted : List D → RX D := runL 3 3 [0] b_law_noted
theorem r_law_noted (x0 x1 x2 : D) : m_law_noted [x0, x1, x2] = bodyB [0] 3 (b_law_noted [some x0, some x1, some x2]) := rfl
theorem c_law_noted {P : Program} {w : World} {K : PySem.W.Frag} {mg : Str → Option Value} {base : Heap} (T : Txt w K mg) (F : Def K mg "_law_noted" s_law_noted) :
    CalB P w K mg base "_law_noted" ["_law_asked", "_law_number", "_law_edge"] [0] 1 m_law_noted :=
  calB_mk (k := 0) (own' := [0]) (N := ["_law_asked", "_law_number", "_law_edge"]) (b := b_law_noted) F sc_law_noted (by decide) (fun _ _ _ _ _ _ us hl => match us, hl with | [_, _, _], _ => rfl) fun vs f cdv A outer s H E hr =>
      (vs_cons (vs_append 0 (ps_expr (pe_bm PySem.F.plainAttrs_list PySem.F.slot_list_append PySem.F.type_list_append mt_append (pv 0) (pa_cons (VG.pe (VE.vg (ve_var 1 (pv 1)))) pa_nil))))
      (vs_one (vs_retB (vg_cmp op_ge d_ge nx_ge (ve_var 1 (pv 1)) (ve_var 2 (pv 2)) (nomark _)))))
/-! _law_due -/
abbrev s_law_due : Stmt := topS 6
theorem sc_law_due : FnScope ["_law_low", "_law_edge"] ["_law_low", "_law_edge"] (defScope s_law_due) := ⟨rfl, rfl, rfl, by decide +kernel, rfl, by decide +kernel, by decide +kernel⟩
noncomputable def b_law_due : Vs.Env → Sr := (seqS (ifS (boolR (op2 ltD (varE 1) (varE 0))) (retS (imm (varE 0))) nilS)
    (retS (imm (varE 1))))
noncomputable def m_law_due : List D → R D := runB 2 b_law_due
theorem r_law_due (x0 x1 : D) : m_law_due [x0, x1] = bodyR (b_law_due [some x0, some x1]) := rfl
theorem c_law_due {P : Program} {w : World} {K : PySem.W.Frag} {mg : Str → Option Value} {base : Heap} (T : Txt w K mg) (F : Def K mg "_law_due" s_law_due) :
    Cal P w K mg base "_law_due" ["_law_low", "_law_edge"] 1 m_law_due :=
  cal_mk (k := 0) (own' := []) (N := ["_law_low", "_law_edge"]) (b := b_law_due) F sc_law_due (by decide) (fun _ _ _ _ _ _ us hl => match us, hl with | [_, _], _ => rfl) fun f cdv A outer s H E hr =>
      (vs_cons (vs_if (own' := []) (vt_cmp op_lt d_lt nx_lt (ve_var 1 (pv 1)) (ve_var 0 (pv 0)) (nomark _)) (vs_one (vs_ret (VE.vg (ve_var 0 (pv 0))))) vs_nil)
      (vs_one (vs_ret (VE.vg (ve_var 1 (pv 1))))))
/-! _law_few -/
abbrev s_law_few : Stmt := topS 7
theorem sc_law_few : FnScope ["_law_asked", "_law_low", "_law_high", "_law_number"] ["_law_asked", "_law_low", "_law_high"] (defScope s_law_few) := ⟨rfl, rfl, rfl, by decide +kernel, rfl, by decide +kernel, by decide +kernel⟩
noncomputable def b_law_few : Vs.Env → Sr := (seqS (ifS (boolR (op2 gtD (callB lenD (consA (varE 0) nilA)) (op2 addD (bitsE (op2 subD (varE 2) (varE 1))) (cE (.int 2))))) (retS (cE (.bl false))) nilS)
    (seqS (forS (itV itemsR (varE 0)) (tgN 3) (ifS (orT (notT (boolR (callF m_law_whole (consA (varE 3) nilA)))) (notT (boolR (chD leD leD (varE 1) (varE 3) (varE 2))))) (retS (cE (.bl false))) nilS))
    (retS (cE (.bl true)))))
noncomputable def m_law_few : List D → R D := runB 4 b_law_few
theorem r_law_few (x0 x1 x2 : D) : m_law_few [x0, x1, x2] = bodyR (b_law_few [some x0, some x1, some x2, none]) := rfl
theorem c_law_few {P : Program} {w : World} {K : PySem.W.Frag} {mg : Str → Option Value} {base : Heap} (T : Txt w K mg) (F : Def K mg "_law_few" s_law_few) (c_law_whole : Cal P w K mg base "_law_whole" ["_law_found"] 1 m_law_whole) :
    Cal P w K mg base "_law_few" ["_law_asked", "_law_low", "_law_high"] 2 m_law_few :=
  cal_mk (k := 1) (own' := []) (N := ["_law_asked", "_law_low", "_law_high", "_law_number"]) (b := b_law_few) F sc_law_few (by decide) (fun _ _ _ _ _ _ us hl => match us, hl with | [_, _, _], _ => rfl) fun f cdv A outer s H E hr =>
      (vs_cons (vs_if (own' := []) (vt_cmp op_gt d_gt nx_gt (VG.ve (vg_callB call_len cb_len nx_len rfl T.b_len PySem.boot_len (va_cons (ve_var 0 (pv 0)) va_nil))) (VG.ve (vg_op op_addA d_add nx_add (VG.ve (vg_bits (VG.ve (vg_op op_sub d_sub nx_sub (ve_var 2 (pv 2)) (ve_var 1 (pv 1)))))) (VG.ve vg_int))) (nomark _)) (vs_one (vs_ret vg_bl)) vs_nil)
      (vs_cons (vs_for (own := []) (passes_of rfl) rfl (vi_seq (vp_var 0 (pv 0))) ⟨_, (pg_name (i := 3) sc_law_few.nd rfl (by first | exact Or.inl rfl | exact Or.inr rfl)), (tk_name 3)⟩ (vs_one (vs_if (own' := []) (VW.vt (vw_or (vt_not (vt_val (VG.ve (vg_fn c_law_whole hr (takes_of rfl rfl rfl rfl) rfl (va_cons (ve_var 3 (pv 3)) va_nil) (len_cons len_nil))))) (vw_or1 (vt_not (vt_ch op_le op_le d_le nx_le d_le nx_le (ve_var 1 (pv 1)) (ve_var 3 (pv 3)) (ve_var 2 (pv 2))))))) (vs_one (vs_ret vg_bl)) vs_nil)))
      (vs_one (vs_ret vg_bl))))
/-! _law_right.lam -/
abbrev s_law_right : Stmt := topS 8
abbrev s_law_right_lam : Stmt := (defBody s_law_right).getD 1 (.Pass ⟨0, 0, 0, 0⟩)
abbrev e_law_right_lam : Expr := lamIn s_law_right_lam
theorem sc_law_right_lam : NdefX.NScope ["_law_number", "_law_edge", "_law_asked"] ["_law_number"] ["_law_edge", "_law_asked"] (lamScope e_law_right_lam) := NdefX.nscope_by (by decide +kernel)
noncomputable def b_law_right_lam : Vs.Env → Sr := (retXB (lendX 3 [0] m_law_noted (liftX (slP 2 (vlP (imm (varE 0)) (vlP (imm (varE 1)) nilP))))))
noncomputable def m_law_right_lam : List D → RX D := runL 3 3 [2] b_law_right_lam
theorem r_law_right_lam (x0 x1 x2 : D) : m_law_right_lam [x0, x1, x2] = bodyB [2] 3 (b_law_right_lam [some x0, some x1, some x2]) := rfl
theorem c_law_right_lam {P : Program} {w : World} {K : PySem.W.Frag} {mg : Str → Option Value} {base : Heap} (T : Txt w K mg) (c_law_noted : CalB P w K mg base "_law_noted" ["_law_asked", "_law_number", "_law_edge"] [0] 1 m_law_noted) :
    ∀ (q : Str) (cl : List (Str × Addr)) (c2 f : Addr), COk P w K mg base 2 f (cfL (lamBody e_law_right_lam) f ⟨"<lambda>", q, lamArgs e_law_right_lam, [], lamScope e_law_right_lam, cl, c2⟩) cl 1 ["_law_edge", "_law_asked"] (spB K mg (1 + ["_law_edge", "_law_asked"].length) [2] m_law_right_lam) := fun q cl c2 f =>
  cok_lam (k := 1) (N := ["_law_number", "_law_edge", "_law_asked"]) (J := [2]) (F := ⟨"<lambda>", q, lamArgs e_law_right_lam, [], lamScope e_law_right_lam, cl, c2⟩) sc_law_right_lam (fun _ _ us hl => match us, hl with | [_], _ => rfl) fun A outer s H E hr =>
      (vx_callB c_law_noted hr (takes_of rfl rfl rfl rfl) rfl (VPA.vxa (vpa_sl 2 (pv 2) (vpa_vl (VE.vg (ve_var 0 (pv 0))) (vpa_vl (VE.vg (ve_var 1 (pv 1))) vpa_nil)))))
/-! least -/
abbrev s_least : Stmt := topS 1
theorem sc_least_law_right_lam : FnScope ["low", "high", "good", "g:_law_edge", "g:_law_asked", "middle"] ["low", "high", "good"] (defScope s_least) := ⟨rfl, rfl, rfl, by decide +kernel, rfl, by decide +kernel, by decide +kernel⟩
theorem gs_least_law_right_lam : ∀ i y, 3 ≤ i → i < 3 + 2 → (["low", "high", "good", "g:_law_edge", "g:_law_asked", "middle"] : List Str)[i]? = some y → ¬ Vis (defScope s_least) y := ghosts_by (by decide +kernel)
noncomputable def b_least_law_right_lam (z : D) : Vs.Env → Sr := (seqS (whileS (boolR (op2 ltD (varE 0) (varE 1))) (seqS (asgS 5 (op2 fdivD (op2 addD (varE 0) (varE 1)) (cE (.int 2))))
    (ifX (boolX (holdC z 2 (capX 3 [2] m_law_right_lam [(3, false), (4, true)] (liftX (vlP (imm (varE 5)) nilP))))) (asgS 1 (imm (varE 5))) (asgS 0 (op2 addD (varE 5) (cE (.int 1)))))))
    (retB (imm (varE 0))))
noncomputable def m_least_law_right_lam : List D → RX D := fun ds => runL 6 5 [4] (b_least_law_right_lam (ds.getD 2 .non)) ds
theorem r_least_law_right_lam (x0 x1 x2 x3 x4 : D) : m_least_law_right_lam [x0, x1, x2, x3, x4] = bodyB [4] 5 (b_least_law_right_lam x2 [some x0, some x1, some x2, some x3, some x4, none]) := rfl
theorem c_least_law_right_lam {P : Program} {w : World} {K : PySem.W.Frag} {mg : Str → Option Value} {base : Heap} (T : Txt w K mg) (F : Def K mg "least" s_least) (c_law_right_lam : ∀ (q : Str) (cl : List (Str × Addr)) (c2 f : Addr), COk P w K mg base 2 f (cfL (lamBody e_law_right_lam) f ⟨"<lambda>", q, lamArgs e_law_right_lam, [], lamScope e_law_right_lam, cl, c2⟩) cl 1 ["_law_edge", "_law_asked"] (spB K mg (1 + ["_law_edge", "_law_asked"].length) [2] m_law_right_lam)) :
    CalC P w K mg base "least" ["low", "high", "good"] 2 ["_law_edge", "_law_asked"] [4] 3 2 [2] m_law_right_lam m_least_law_right_lam :=
  calC_mk (k := 2) (own' := [4]) (N := ["low", "high", "good", "g:_law_edge", "g:_law_asked", "middle"]) (J := [4]) (G := [3, 4]) (b := b_least_law_right_lam) F sc_least_law_right_lam (by decide) (by decide) rfl gs_least_law_right_lam (fun _ _ _ _ _ _ us hl => match us, hl with | [_, _, _], _ => rfl) fun f0 F0 cl C vs ws f cdv A outer s H E hvs C0 hr =>
      (vs_cons (vs_while (own := [4]) (passes_of rfl) (vt_cmp op_lt d_lt nx_lt (ve_var 0 (pv 0)) (ve_var 1 (pv 1)) (nomark _)) (VSs.weak (own'' := [4]) (vs_cons (vs_set 5 sc_least_law_right_lam.nd rfl (by first | exact Or.inl rfl | exact Or.inr rfl) (vg_op op_fdivW d_fdiv nx_fdiv (VG.ve (vg_op op_addA d_add nx_add (ve_var 0 (pv 0)) (ve_var 1 (pv 1)))) (VG.ve vg_int)))
      (vs_one (vs_ifC (own' := [5, 4]) 2 [(3, false), (4, true)] C C0 rfl hr (takes_of rfl rfl rfl rfl) (match vs, ws, hvs, C0.len with | [_, _, _], [_, _], _, _ => rfl) rfl (by first | exact Or.inl rfl | exact Or.inr (Or.inl rfl) | exact Or.inr (Or.inr rfl)) (VPA.vxa (vpa_vl (VE.vg (ve_var 5 (pv 5))) vpa_nil)) (VSs.weak (own'' := [5, 4]) (vs_one (vs_set 1 sc_least_law_right_lam.nd rfl (by first | exact Or.inl rfl | exact Or.inr rfl) (VE.vg (ve_var 5 (pv 5)))))) (VSs.weak (own'' := [5, 4]) (vs_one (vs_set 0 sc_least_law_right_lam.nd rfl (by first | exact Or.inl rfl | exact Or.inr rfl) (vg_op op_addA d_add nx_add (ve_var 5 (pv 5)) (VG.ve vg_int))))))))))
      (vs_one (vs_retB (VE.vg (ve_var 0 (pv 0))))))
/-! _law_right -/
abbrev cd_law_right : Addr := 62
abbrev tp_law_right : Addr := 58
theorem nb_law_right_lam : NdefX.ndefB (defScope s_law_right) (lamScope e_law_right_lam) ["_law_edge", "_law_asked"] = true := by decide +kernel
theorem sc_law_right : FnScope ["_law_low", "_law_high", "_law_edge", "_law_asked", "_law_found"] ["_law_low", "_law_high", "_law_edge"] (defScope s_law_right) := ⟨rfl, rfl, rfl, by decide +kernel, rfl, by decide +kernel, by decide +kernel⟩
noncomputable def b_law_right : Vs.Env → Sr := (seqS (asgS 3 (lstE nilA))
    (seqS (setX 4 (callL 2 5 [4] m_least_law_right_lam [(2, false), (3, true)] (imm (varE 0)) (imm (varE 1))))
    (retS (andE (callF m_law_whole (consA (varE 4) nilA)) (andE (op2 eqD (varE 4) (callF m_law_due (consA (varE 0) (consA (varE 2) nilA)))) (callF m_law_few (consA (varE 3) (consA (varE 0) (consA (varE 1) nilA)))))))))
noncomputable def m_law_right : List D → R D := runB 5 b_law_right
theorem r_law_right (x0 x1 x2 : D) : m_law_right [x0, x1, x2] = bodyR (b_law_right [some x0, some x1, some x2, none, none]) := rfl
theorem c_law_right {P : Program} {w : World} {K : PySem.W.Frag} {mg : Str → Option Value} {base : Heap} (T : Txt w K mg) (F : DefC K mg "_law_right" s_law_right cd_law_right) (TB : LamX.TabB base mg cd_law_right tp_law_right) (c_law_right_lam : ∀ (q : Str) (cl : List (Str × Addr)) (c2 f : Addr), COk P w K mg base 2 f (cfL (lamBody e_law_right_lam) f ⟨"<lambda>", q, lamArgs e_law_right_lam, [], lamScope e_law_right_lam, cl, c2⟩) cl 1 ["_law_edge", "_law_asked"] (spB K mg (1 + ["_law_edge", "_law_asked"].length) [2] m_law_right_lam)) (c_least_law_right_lam : CalC P w K mg base "least" ["low", "high", "good"] 2 ["_law_edge", "_law_asked"] [4] 3 2 [2] m_law_right_lam m_least_law_right_lam) (c_law_few : Cal P w K mg base "_law_few" ["_law_asked", "_law_low", "_law_high"] 2 m_law_few) (c_law_due : Cal P w K mg base "_law_due" ["_law_low", "_law_edge"] 1 m_law_due) (c_law_whole : Cal P w K mg base "_law_whole" ["_law_found"] 1 m_law_whole) :
    Cal P w K mg base "_law_right" ["_law_low", "_law_high", "_law_edge"] 4 m_law_right :=
  cal_mkC (k := 3) (own' := []) (N := ["_law_low", "_law_high", "_law_edge", "_law_asked", "_law_found"]) (b := b_law_right) F sc_law_right (by decide) (fun _ _ _ _ _ _ us hl => match us, hl with | [_, _, _], _ => rfl) fun f A outer s H E hr =>
      (vs_cons (vs_set 3 sc_law_right.nd rfl (by first | exact Or.inl rfl | exact Or.inr rfl) (vg_lst vb_nil len_nil))
      (vs_cons (vs_setX 4 sc_law_right.nd rfl (by first | exact Or.inl rfl | exact Or.inr rfl) (vx_callL [(2, false), (3, true)] c_least_law_right_lam (fun f c2 => c_law_right_lam _ _ c2 f) TB rfl (by decide) (by kernel_rfl) rfl nb_law_right_lam rfl hr (takes_of rfl rfl rfl rfl) rfl (VE.vg (ve_var 0 (pv 0))) (VE.vg (ve_var 1 (pv 1)))))
      (vs_one (vs_ret (vg_and (VG.ve (vg_fn c_law_whole hr (takes_of rfl rfl rfl rfl) rfl (va_cons (ve_var 4 (pv 4)) va_nil) (len_cons len_nil))) (vg_and (VG.ve (vg_cmp (op_eqD hr.units) d_eq nx_eq (ve_var 4 (pv 4)) (VG.ve (vg_fn c_law_due hr (takes_of rfl rfl rfl rfl) rfl (va_cons (ve_var 0 (pv 0)) (va_cons (ve_var 2 (pv 2)) va_nil)) (len_cons (len_cons len_nil)))) (nomark _))) (vg_one (vg_fn c_law_few hr (takes_of rfl rfl rfl rfl) rfl (va_cons (ve_var 3 (pv 3)) (va_cons (ve_var 0 (pv 0)) (va_cons (ve_var 1 (pv 1)) va_nil))) (len_cons (len_cons (len_cons len_nil)))))))))))
/-! law -/
abbrev s_law : Stmt := topS 9
theorem sc_law : FnScope ["_law_script", "_law_low", "_law_size", "_law_high", "_law_edge", "_law_other"] ["_law_script"] (defScope s_law) := ⟨rfl, rfl, rfl, by decide +kernel, rfl, by decide +kernel, by decide +kernel⟩
noncomputable def b_law : Vs.Env → Sr := (seqS (asgS 1 (op2 modD (callF m_law_cell_at (consA (varE 0) (consA (cE (.int 0)) nilA))) (op2 powD (cE (.int 10)) (cE (.int 60)))))
    (seqS (asgS 2 (cE (.int 0)))
    (seqS (ifS (boolR (op2 eqD (op2 modD (callF m_law_cell_at (consA (varE 0) (consA (cE (.int 1)) nilA))) (cE (.int 3))) (cE (.int 1)))) (asgS 2 (op2 modD (op2 fdivD (callF m_law_cell_at (consA (varE 0) (consA (cE (.int 1)) nilA))) (cE (.int 3))) (op2 powD (cE (.int 10)) (cE (.int 60))))) nilS)
    (seqS (ifS (boolR (op2 eqD (op2 modD (callF m_law_cell_at (consA (varE 0) (consA (cE (.int 1)) nilA))) (cE (.int 3))) (cE (.int 2)))) (asgS 2 (op2 modD (op2 fdivD (callF m_law_cell_at (consA (varE 0) (consA (cE (.int 1)) nilA))) (cE (.int 3))) (cE (.int 12)))) nilS)
    (seqS (asgS 3 (op2 addD (varE 1) (varE 2)))
    (seqS (asgS 4 (op2 subD (varE 3) (op2 modD (callF m_law_cell_at (consA (varE 0) (consA (cE (.int 2)) nilA))) (op2 addD (varE 2) (cE (.int 2))))))
    (seqS (asgS 5 (op2 subD (varE 3) (op2 modD (callF m_law_cell_at (consA (varE 0) (consA (cE (.int 3)) nilA))) (op2 addD (varE 2) (cE (.int 2))))))
    (seqS (ifS (orT (notT (boolR (callF m_law_right (consA (varE 1) (consA (varE 3) (consA (varE 4) nilA)))))) (notT (boolR (callF m_law_right (consA (varE 1) (consA (varE 3) (consA (varE 5) nilA))))))) (retS (cE (.bl false))) nilS)
    (retS (callF m_law_right (consA (varE 1) (consA (varE 3) (consA (varE 4) nilA)))))))))))))
noncomputable def m_law : List D → R D := runB 6 b_law
theorem r_law (x0 : D) : m_law [x0] = bodyR (b_law [some x0, none, none, none, none, none]) := rfl
theorem v_law {P : Program} {w : World} {K : PySem.W.Frag} {mg : Str → Option Value} {base : Heap} (T : Txt w K mg) (c_law_cell_at : Cal P w K mg base "_law_cell_at" ["_law_script", "_law_k"] 1 m_law_cell_at) (c_law_right : Cal P w K mg base "_law_right" ["_law_low", "_law_high", "_law_edge"] 4 m_law_right) (f : Addr) (cdv : Value) (A : Around) (outer : List PySem.Env) (s : Shared) (H : Hp) (E : XK) (hr : Room 4 (A.deeper (envOfC "law" (defScope s_law) s.heap.objs.size f cdv))) :
    VSs (cxOf (L2.CX P w) P w K mg base ["_law_script", "_law_low", "_law_size", "_law_high", "_law_edge", "_law_other"] "law" (defScope s_law) f cdv A outer s H E) (fun cls d _ H => E cls d H) [] [] nol (defBody s_law) b_law :=
      (vs_cons (vs_set 1 sc_law.nd rfl (by first | exact Or.inl rfl | exact Or.inr rfl) (vg_op op_mod d_mod nx_mod (VG.ve (vg_fn c_law_cell_at hr (takes_of rfl rfl rfl rfl) rfl (va_cons (ve_var 0 (pv 0)) (va_cons (VG.ve vg_int) va_nil)) (len_cons (len_cons len_nil)))) (VG.ve (vg_op op_powV d_pow nx_pow (VG.ve vg_int) (VG.ve vg_int)))))
      (vs_cons (vs_set 2 sc_law.nd rfl (by first | exact Or.inl rfl | exact Or.inr rfl) vg_int)
      (vs_cons (vs_if (own' := [2, 2, 1]) (vt_cmp (op_eqD hr.units) d_eq nx_eq (VG.ve (vg_op op_mod d_mod nx_mod (VG.ve (vg_fn c_law_cell_at hr (takes_of rfl rfl rfl rfl) rfl (va_cons (ve_var 0 (pv 0)) (va_cons (VG.ve vg_int) va_nil)) (len_cons (len_cons len_nil)))) (VG.ve vg_int))) (VG.ve vg_int) (nomark _)) (vs_one (vs_set 2 sc_law.nd rfl (by first | exact Or.inl rfl | exact Or.inr rfl) (vg_op op_mod d_mod nx_mod (VG.ve (vg_op op_fdivW d_fdiv nx_fdiv (VG.ve (vg_fn c_law_cell_at hr (takes_of rfl rfl rfl rfl) rfl (va_cons (ve_var 0 (pv 0)) (va_cons (VG.ve vg_int) va_nil)) (len_cons (len_cons len_nil)))) (VG.ve vg_int))) (VG.ve (vg_op op_powV d_pow nx_pow (VG.ve vg_int) (VG.ve vg_int)))))) (VSs.weak (own'' := [2, 2, 1]) vs_nil))
      (vs_cons (vs_if (own' := [2, 2, 2, 1]) (vt_cmp (op_eqD hr.units) d_eq nx_eq (VG.ve (vg_op op_mod d_mod nx_mod (VG.ve (vg_fn c_law_cell_at hr (takes_of rfl rfl rfl rfl) rfl (va_cons (ve_var 0 (pv 0)) (va_cons (VG.ve vg_int) va_nil)) (len_cons (len_cons len_nil)))) (VG.ve vg_int))) (VG.ve vg_int) (nomark _)) (vs_one (vs_set 2 sc_law.nd rfl (by first | exact Or.inl rfl | exact Or.inr rfl) (vg_op op_mod d_mod nx_mod (VG.ve (vg_op op_fdivW d_fdiv nx_fdiv (VG.ve (vg_fn c_law_cell_at hr (takes_of rfl rfl rfl rfl) rfl (va_cons (ve_var 0 (pv 0)) (va_cons (VG.ve vg_int) va_nil)) (len_cons (len_cons len_nil)))) (VG.ve vg_int))) (VG.ve vg_int)))) (VSs.weak (own'' := [2, 2, 2, 1]) vs_nil))
      (vs_cons (vs_set 3 sc_law.nd rfl (by first | exact Or.inl rfl | exact Or.inr rfl) (vg_op op_addA d_add nx_add (ve_var 1 (pv 1)) (ve_var 2 (pv 2))))
      (vs_cons (vs_set 4 sc_law.nd rfl (by first | exact Or.inl rfl | exact Or.inr rfl) (vg_op op_sub d_sub nx_sub (ve_var 3 (pv 3)) (VG.ve (vg_op op_mod d_mod nx_mod (VG.ve (vg_fn c_law_cell_at hr (takes_of rfl rfl rfl rfl) rfl (va_cons (ve_var 0 (pv 0)) (va_cons (VG.ve vg_int) va_nil)) (len_cons (len_cons len_nil)))) (VG.ve (vg_op op_addA d_add nx_add (ve_var 2 (pv 2)) (VG.ve vg_int)))))))
      (vs_cons (vs_set 5 sc_law.nd rfl (by first | exact Or.inl rfl | exact Or.inr rfl) (vg_op op_sub d_sub nx_sub (ve_var 3 (pv 3)) (VG.ve (vg_op op_mod d_mod nx_mod (VG.ve (vg_fn c_law_cell_at hr (takes_of rfl rfl rfl rfl) rfl (va_cons (ve_var 0 (pv 0)) (va_cons (VG.ve vg_int) va_nil)) (len_cons (len_cons len_nil)))) (VG.ve (vg_op op_addA d_add nx_add (ve_var 2 (pv 2)) (VG.ve vg_int)))))))
      (vs_cons (vs_if (own' := [5, 4, 3, 2, 2, 2, 1]) (VW.vt (vw_or (vt_not (vt_val (VG.ve (vg_fn c_law_right hr (takes_of rfl rfl rfl rfl) rfl (va_cons (ve_var 1 (pv 1)) (va_cons (ve_var 3 (pv 3)) (va_cons (ve_var 4 (pv 4)) va_nil))) (len_cons (len_cons (len_cons len_nil))))))) (vw_or1 (vt_not (vt_val (VG.ve (vg_fn c_law_right hr (takes_of rfl rfl rfl rfl) rfl (va_cons (ve_var 1 (pv 1)) (va_cons (ve_var 3 (pv 3)) (va_cons (ve_var 5 (pv 5)) va_nil))) (len_cons (len_cons (len_cons len_nil)))))))))) (vs_one (vs_ret vg_bl)) vs_nil)
      (vs_one (vs_ret (vg_fn c_law_right hr (takes_of rfl rfl rfl rfl) rfl (va_cons (ve_var 1 (pv 1)) (va_cons (ve_var 3 (pv 3)) (va_cons (ve_var 4 (pv 4)) va_nil))) (len_cons (len_cons (len_cons len_nil))))))))))))))
end Lw
namespace Lw
open PySem PySem.Spec PyProof.Rows L2 Vs
local macro_rules | `(tactic| walk_at "ev") => `(tactic| try simp -implicitDefEqProofs only [seqS_eq, seq_nx, seq_rt, seq_st, seq_bk, seq_ct, seq_ex, seq_ite, body_nx, body_rt, body_ex, body_ite, bindS_ok, bindS_st, bindS_ex, bindS_ite, bind_ite, R.bind_ok, R.bind_st, R.bind_ex, var0, varS, retV0, retVS, asgS, cE, op2, negE, negD_int, imm, immD_int, immD_bl, immD_str, immD_non, immD_tup, immDs_nil, immDs_cons, addD_int, subD_int, mulD_ok, fdivD_pos, modD_pos, powD_ok, shlD_ok, shrD_ok, ltD_int, leD_int, gtD_int, geD_int, eqD_int, neD_int, boolR, andT, orT, notT, andE, orE, notE, ifS, retS, retNS, nilS, callB, callF, consA, nilA, lenD_lst, lenD_tup, len_0, len_1, len_2, len_3, absD_int, Int.reduceEq, not_true, not_false_eq_true, ne_eq, neD_int, eqD_pair, neD_pair, maxD_int, minD_int, maxD_l2, minD_l2, List.set_cons_zero, List.set_cons_succ, isiE, chD_eq, chK_bl, ite_bl, eqD_bl, decide_true, decide_false, if_true, if_false, ite_true, ite_false, Bool.not_true, Bool.not_false, decide_eq_true_eq, Bool.not_eq_true', decide_eq_false_iff_not, Bool.false_eq_true, Bool.true_eq_false, exprS, reduceIte, tupE, lstE, List.length_map, isD, isNotD, isNonB, ix0_lst, ix0_tup, ix1_lst, ix1_tup, ix2_lst, ix2_tup, ix3_lst, ix3_tup, ix4_lst, ix4_tup, ix5_lst, ix5_tup, Go_nx, Go_ct, Int.reduceLT, Int.reduceLE, Int.reduceNeg, Int.reduceSub, Int.reduceAdd, Int.reduceMul, Int.reduceToNat, Nat.reduceLT, Nat.reduceLeDiff, Nat.reducePow, Bool.and_true, Bool.and_false, Bool.true_and, Bool.false_and, isT_int_non, isT_int_bl, isT_int_int, isT_int_str, isT_int_lst, isT_int_tup, isT_bool_non, isT_bool_bl, isT_bool_int, isT_bool_str, isT_bool_lst, isT_bool_tup, isT_str_non, isT_str_bl, isT_str_int, isT_str_str, isT_str_lst, isT_str_tup, isT_list_non, isT_list_bl, isT_list_int, isT_list_str, isT_list_lst, isT_list_tup, isT_tuple_non, isT_tuple_bl, isT_tuple_int, isT_tuple_str, isT_tuple_lst, isT_tuple_tup])
theorem asg_ok {i : Nat} {f : Vs.Env → R D} {ρ : Vs.Env} {d : D} (h : f ρ = .ok d) : asgS i f ρ = .nx (ρ.set i (some d)) := by
  unfold asgS
  rw [h, bindS_ok]
theorem ifS_nl {t : Vs.Env → R Bool} {a : Vs.Env → Sr} {ρ : Vs.Env} {b : Bool} (h : t ρ = .ok b) : ifS t a nilS ρ = if b = true then a ρ else .nx ρ := by
  unfold ifS
  rw [h, bindS_ok]
  rfl
end Lw
namespace Lw
open PySem PySem.Spec PyProof.Rows L2 Vs
local macro_rules | `(tactic| walk_at "ev") => `(tactic| try simp -implicitDefEqProofs only [seqS_eq, seq_nx, seq_rt, seq_st, seq_bk, seq_ct, seq_ex, seq_ite, body_nx, body_rt, body_ex, body_ite, bindS_ok, bindS_st, bindS_ex, bindS_ite, bind_ite, R.bind_ok, R.bind_st, R.bind_ex, var0, varS, retV0, retVS, asgS, cE, op2, negE, negD_int, imm, immD_int, immD_bl, immD_str, immD_non, immD_tup, immDs_nil, immDs_cons, addD_int, subD_int, mulD_ok, fdivD_pos, modD_pos, powD_ok, shlD_ok, shrD_ok, ltD_int, leD_int, gtD_int, geD_int, eqD_int, neD_int, boolR, andT, orT, notT, andE, orE, notE, ifS, retS, retNS, nilS, callB, callF, consA, nilA, lenD_lst, lenD_tup, len_0, len_1, len_2, len_3, absD_int, Int.reduceEq, not_true, not_false_eq_true, ne_eq, neD_int, eqD_pair, neD_pair, maxD_int, minD_int, maxD_l2, minD_l2, List.set_cons_zero, List.set_cons_succ, isiE, chD_eq, chK_bl, ite_bl, eqD_bl, decide_true, decide_false, if_true, if_false, ite_true, ite_false, Bool.not_true, Bool.not_false, decide_eq_true_eq, Bool.not_eq_true', decide_eq_false_iff_not, Bool.false_eq_true, Bool.true_eq_false, exprS, reduceIte, tupE, lstE, List.length_map, isD, isNotD, isNonB, ix0_lst, ix0_tup, ix1_lst, ix1_tup, ix2_lst, ix2_tup, ix3_lst, ix3_tup, ix4_lst, ix4_tup, ix5_lst, ix5_tup, Go_nx, Go_ct, Int.reduceLT, Int.reduceLE, Int.reduceNeg, Int.reduceSub, Int.reduceAdd, Int.reduceMul, Int.reduceToNat, Nat.reduceLT, Nat.reduceLeDiff, Nat.reducePow, Bool.and_true, Bool.and_false, Bool.true_and, Bool.false_and, isT_int_non, isT_int_bl, isT_int_int, isT_int_str, isT_int_lst, isT_int_tup, isT_bool_non, isT_bool_bl, isT_bool_int, isT_bool_str, isT_bool_lst, isT_bool_tup, isT_str_non, isT_str_bl, isT_str_int, isT_str_str, isT_str_lst, isT_str_tup, isT_list_non, isT_list_bl, isT_list_int, isT_list_str, isT_list_lst, isT_list_tup, isT_tuple_non, isT_tuple_bl, isT_tuple_int, isT_tuple_str, isT_tuple_lst, isT_tuple_tup])
/-! tests, by what they ask -/
theorem op2_v {g : D → D → R D} {f k : Vs.Env → R D} {ρ : Vs.Env} {x y : D} (hf : f ρ = .ok x) (hk : k ρ = .ok y) : op2 g f k ρ = g x y := by
  unfold op2
  rw [hf, Vs.R.bind_ok, hk, Vs.R.bind_ok]
theorem orT_b {f g : Vs.Env → R Bool} {ρ : Vs.Env} {a b : Bool} (h1 : f ρ = .ok a) (h2 : g ρ = .ok b) : orT f g ρ = .ok (a || b) := by
  unfold orT
  rw [h1, Vs.R.bind_ok]
  cases a
  · rw [if_neg (by decide)]; exact h2
  · rfl
theorem andT_b {f g : Vs.Env → R Bool} {ρ : Vs.Env} {a b : Bool} (h1 : f ρ = .ok a) (h2 : g ρ = .ok b) : andT f g ρ = .ok (a && b) := by
  unfold andT
  rw [h1, Vs.R.bind_ok]
  cases a
  · rfl
  · rw [if_pos rfl]; exact h2
theorem boolR_b {f : Vs.Env → R D} {ρ : Vs.Env} {a : Bool} (h : f ρ = .ok (.bl a)) : boolR f ρ = .ok a := by
  unfold boolR
  rw [h]
  rfl
theorem boolR_2 {g : D → D → R D} {f k : Vs.Env → R D} {ρ : Vs.Env} {x y : D} {a : Bool} (hf : f ρ = .ok x) (hk : k ρ = .ok y) (h : g x y = .ok (.bl a)) : boolR (op2 g f k) ρ = .ok a := boolR_b (by rw [op2_v hf hk, h])
theorem andE_b {f g : Vs.Env → R D} {ρ : Vs.Env} {a b : Bool} (h1 : f ρ = .ok (.bl a)) (h2 : g ρ = .ok (.bl b)) : andE f g ρ = .ok (.bl (a && b)) := by
  unfold andE
  rw [boolR_b h1, Vs.R.bind_ok]
  cases a
  · rfl
  · rw [if_pos rfl]; exact h2
theorem orE_b {f g : Vs.Env → R D} {ρ : Vs.Env} {a b : Bool} (h1 : f ρ = .ok (.bl a)) (h2 : g ρ = .ok (.bl b)) : orE f g ρ = .ok (.bl (a || b)) := by
  unfold orE
  rw [boolR_b h1, Vs.R.bind_ok]
  cases a
  · rw [if_neg (by decide)]; exact h2
  · rfl
theorem notT_b {f : Vs.Env → R Bool} {ρ : Vs.Env} {a : Bool} (h : f ρ = .ok a) : notT f ρ = .ok (!a) := by
  unfold notT
  rw [h, Vs.R.bind_ok]
theorem bits_times {a b : Nat} {x y : Int} (h : Bits a x) (k : Bits b y) : Bits (a + b) (x * y) := ⟨by
  rw [Int.natAbs_mul, Nat.pow_add]
  exact Nat.mul_lt_mul_of_lt_of_le h.lt (Nat.le_of_lt k.lt) (Nat.pow_pos (by decide))⟩
theorem cutL_none {α : Type} {xs : List α} {k : Nat} : cutL xs none (some (k : Int)) = xs.take k := by
  unfold cutL
  rw [HT.sIx_nat]
  show (xs.drop 0).take (min k xs.length - 0) = _
  rw [List.drop_zero, Nat.sub_zero, ← List.take_eq_take_min]
theorem cutL_some {α : Type} {xs : List α} {k : Nat} : cutL xs (some (k : Int)) none = xs.drop k := by
  unfold cutL
  rw [HT.sIx_nat]
  show (xs.drop (min k xs.length)).take (xs.length - min k xs.length) = _
  rw [List.take_of_length_le (by rw [List.length_drop]; omega)]
  by_cases h : k ≤ xs.length
  · rw [Nat.min_eq_left h]
  · rw [Nat.min_eq_right (by omega), List.drop_length, List.drop_of_length_le (by omega)]

/-! calls and displays by their parts -/
theorem al1 {ρ : Vs.Env} {a : Vs.Env → R D} {x0 : D} (h0 : a ρ = .ok x0) : consA a nilA ρ = .ok [x0] := by
  unfold consA nilA
  simp only [h0, Vs.R.bind_ok]
theorem al2 {ρ : Vs.Env} {a b : Vs.Env → R D} {x0 x1 : D} (h0 : a ρ = .ok x0) (h1 : b ρ = .ok x1) : consA a (consA b nilA) ρ = .ok [x0, x1] := by
  unfold consA nilA
  simp only [h0, h1, Vs.R.bind_ok]
theorem al3 {ρ : Vs.Env} {a b c : Vs.Env → R D} {x0 x1 x2 : D} (h0 : a ρ = .ok x0) (h1 : b ρ = .ok x1) (h2 : c ρ = .ok x2) : consA a (consA b (consA c nilA)) ρ = .ok [x0, x1, x2] := by
  unfold consA nilA
  simp only [h0, h1, h2, Vs.R.bind_ok]
theorem al4 {ρ : Vs.Env} {a b c d : Vs.Env → R D} {x0 x1 x2 x3 : D} (h0 : a ρ = .ok x0) (h1 : b ρ = .ok x1) (h2 : c ρ = .ok x2) (h3 : d ρ = .ok x3) : consA a (consA b (consA c (consA d nilA))) ρ = .ok [x0, x1, x2, x3] := by
  unfold consA nilA
  simp only [h0, h1, h2, h3, Vs.R.bind_ok]
theorem al5 {ρ : Vs.Env} {a b c d e : Vs.Env → R D} {x0 x1 x2 x3 x4 : D} (h0 : a ρ = .ok x0) (h1 : b ρ = .ok x1) (h2 : c ρ = .ok x2) (h3 : d ρ = .ok x3) (h4 : e ρ = .ok x4) : consA a (consA b (consA c (consA d (consA e nilA)))) ρ = .ok [x0, x1, x2, x3, x4] := by
  unfold consA nilA
  simp only [h0, h1, h2, h3, h4, Vs.R.bind_ok]
theorem al6 {ρ : Vs.Env} {a b c d e f : Vs.Env → R D} {x0 x1 x2 x3 x4 x5 : D} (h0 : a ρ = .ok x0) (h1 : b ρ = .ok x1) (h2 : c ρ = .ok x2) (h3 : d ρ = .ok x3) (h4 : e ρ = .ok x4) (h5 : f ρ = .ok x5) : consA a (consA b (consA c (consA d (consA e (consA f nilA))))) ρ = .ok [x0, x1, x2, x3, x4, x5] := by
  unfold consA nilA
  simp only [h0, h1, h2, h3, h4, h5, Vs.R.bind_ok]
theorem al7 {ρ : Vs.Env} {a b c d e f g : Vs.Env → R D} {x0 x1 x2 x3 x4 x5 x6 : D} (h0 : a ρ = .ok x0) (h1 : b ρ = .ok x1) (h2 : c ρ = .ok x2) (h3 : d ρ = .ok x3) (h4 : e ρ = .ok x4) (h5 : f ρ = .ok x5) (h6 : g ρ = .ok x6) : consA a (consA b (consA c (consA d (consA e (consA f (consA g nilA)))))) ρ = .ok [x0, x1, x2, x3, x4, x5, x6] := by
  unfold consA nilA
  simp only [h0, h1, h2, h3, h4, h5, h6, Vs.R.bind_ok]
theorem cf1 {ρ : Vs.Env} {m : List D → R D} {a : Vs.Env → R D} {x0 : D} (h0 : a ρ = .ok x0) : callF m (consA a nilA) ρ = m [x0] := by
  unfold callF
  rw [al1 h0, Vs.R.bind_ok]
theorem cb1_ {ρ : Vs.Env} {m : List D → R D} {a : Vs.Env → R D} {x0 : D} (h0 : a ρ = .ok x0) : callB m (consA a nilA) ρ = m [x0] := by
  unfold callB
  rw [al1 h0, Vs.R.bind_ok]
theorem le1 {ρ : Vs.Env} {a : Vs.Env → R D} {x0 : D} (h0 : a ρ = .ok x0) : lstE (consA a nilA) ρ = .ok (.lst [x0]) := by
  unfold lstE
  rw [al1 h0, Vs.R.bind_ok]
theorem te1 {ρ : Vs.Env} {a : Vs.Env → R D} {x0 : D} (h0 : a ρ = .ok x0) : tupE (consA a nilA) ρ = .ok (.tup [x0]) := by
  unfold tupE
  rw [al1 h0, Vs.R.bind_ok]
theorem cf2 {ρ : Vs.Env} {m : List D → R D} {a b : Vs.Env → R D} {x0 x1 : D} (h0 : a ρ = .ok x0) (h1 : b ρ = .ok x1) : callF m (consA a (consA b nilA)) ρ = m [x0, x1] := by
  unfold callF
  rw [al2 h0 h1, Vs.R.bind_ok]
theorem cb2_ {ρ : Vs.Env} {m : List D → R D} {a b : Vs.Env → R D} {x0 x1 : D} (h0 : a ρ = .ok x0) (h1 : b ρ = .ok x1) : callB m (consA a (consA b nilA)) ρ = m [x0, x1] := by
  unfold callB
  rw [al2 h0 h1, Vs.R.bind_ok]
theorem le2 {ρ : Vs.Env} {a b : Vs.Env → R D} {x0 x1 : D} (h0 : a ρ = .ok x0) (h1 : b ρ = .ok x1) : lstE (consA a (consA b nilA)) ρ = .ok (.lst [x0, x1]) := by
  unfold lstE
  rw [al2 h0 h1, Vs.R.bind_ok]
theorem te2 {ρ : Vs.Env} {a b : Vs.Env → R D} {x0 x1 : D} (h0 : a ρ = .ok x0) (h1 : b ρ = .ok x1) : tupE (consA a (consA b nilA)) ρ = .ok (.tup [x0, x1]) := by
  unfold tupE
  rw [al2 h0 h1, Vs.R.bind_ok]
theorem cf3 {ρ : Vs.Env} {m : List D → R D} {a b c : Vs.Env → R D} {x0 x1 x2 : D} (h0 : a ρ = .ok x0) (h1 : b ρ = .ok x1) (h2 : c ρ = .ok x2) : callF m (consA a (consA b (consA c nilA))) ρ = m [x0, x1, x2] := by
  unfold callF
  rw [al3 h0 h1 h2, Vs.R.bind_ok]
theorem cb3_ {ρ : Vs.Env} {m : List D → R D} {a b c : Vs.Env → R D} {x0 x1 x2 : D} (h0 : a ρ = .ok x0) (h1 : b ρ = .ok x1) (h2 : c ρ = .ok x2) : callB m (consA a (consA b (consA c nilA))) ρ = m [x0, x1, x2] := by
  unfold callB
  rw [al3 h0 h1 h2, Vs.R.bind_ok]
theorem le3 {ρ : Vs.Env} {a b c : Vs.Env → R D} {x0 x1 x2 : D} (h0 : a ρ = .ok x0) (h1 : b ρ = .ok x1) (h2 : c ρ = .ok x2) : lstE (consA a (consA b (consA c nilA))) ρ = .ok (.lst [x0, x1, x2]) := by
  unfold lstE
  rw [al3 h0 h1 h2, Vs.R.bind_ok]
theorem te3 {ρ : Vs.Env} {a b c : Vs.Env → R D} {x0 x1 x2 : D} (h0 : a ρ = .ok x0) (h1 : b ρ = .ok x1) (h2 : c ρ = .ok x2) : tupE (consA a (consA b (consA c nilA))) ρ = .ok (.tup [x0, x1, x2]) := by
  unfold tupE
  rw [al3 h0 h1 h2, Vs.R.bind_ok]
theorem cf4 {ρ : Vs.Env} {m : List D → R D} {a b c d : Vs.Env → R D} {x0 x1 x2 x3 : D} (h0 : a ρ = .ok x0) (h1 : b ρ = .ok x1) (h2 : c ρ = .ok x2) (h3 : d ρ = .ok x3) : callF m (consA a (consA b (consA c (consA d nilA)))) ρ = m [x0, x1, x2, x3] := by
  unfold callF
  rw [al4 h0 h1 h2 h3, Vs.R.bind_ok]
theorem cb4_ {ρ : Vs.Env} {m : List D → R D} {a b c d : Vs.Env → R D} {x0 x1 x2 x3 : D} (h0 : a ρ = .ok x0) (h1 : b ρ = .ok x1) (h2 : c ρ = .ok x2) (h3 : d ρ = .ok x3) : callB m (consA a (consA b (consA c (consA d nilA)))) ρ = m [x0, x1, x2, x3] := by
  unfold callB
  rw [al4 h0 h1 h2 h3, Vs.R.bind_ok]
theorem le4 {ρ : Vs.Env} {a b c d : Vs.Env → R D} {x0 x1 x2 x3 : D} (h0 : a ρ = .ok x0) (h1 : b ρ = .ok x1) (h2 : c ρ = .ok x2) (h3 : d ρ = .ok x3) : lstE (consA a (consA b (consA c (consA d nilA)))) ρ = .ok (.lst [x0, x1, x2, x3]) := by
  unfold lstE
  rw [al4 h0 h1 h2 h3, Vs.R.bind_ok]
theorem te4 {ρ : Vs.Env} {a b c d : Vs.Env → R D} {x0 x1 x2 x3 : D} (h0 : a ρ = .ok x0) (h1 : b ρ = .ok x1) (h2 : c ρ = .ok x2) (h3 : d ρ = .ok x3) : tupE (consA a (consA b (consA c (consA d nilA)))) ρ = .ok (.tup [x0, x1, x2, x3]) := by
  unfold tupE
  rw [al4 h0 h1 h2 h3, Vs.R.bind_ok]
theorem cf5 {ρ : Vs.Env} {m : List D → R D} {a b c d e : Vs.Env → R D} {x0 x1 x2 x3 x4 : D} (h0 : a ρ = .ok x0) (h1 : b ρ = .ok x1) (h2 : c ρ = .ok x2) (h3 : d ρ = .ok x3) (h4 : e ρ = .ok x4) : callF m (consA a (consA b (consA c (consA d (consA e nilA))))) ρ = m [x0, x1, x2, x3, x4] := by
  unfold callF
  rw [al5 h0 h1 h2 h3 h4, Vs.R.bind_ok]
theorem cb5_ {ρ : Vs.Env} {m : List D → R D} {a b c d e : Vs.Env → R D} {x0 x1 x2 x3 x4 : D} (h0 : a ρ = .ok x0) (h1 : b ρ = .ok x1) (h2 : c ρ = .ok x2) (h3 : d ρ = .ok x3) (h4 : e ρ = .ok x4) : callB m (consA a (consA b (consA c (consA d (consA e nilA))))) ρ = m [x0, x1, x2, x3, x4] := by
  unfold callB
  rw [al5 h0 h1 h2 h3 h4, Vs.R.bind_ok]
theorem le5 {ρ : Vs.Env} {a b c d e : Vs.Env → R D} {x0 x1 x2 x3 x4 : D} (h0 : a ρ = .ok x0) (h1 : b ρ = .ok x1) (h2 : c ρ = .ok x2) (h3 : d ρ = .ok x3) (h4 : e ρ = .ok x4) : lstE (consA a (consA b (consA c (consA d (consA e nilA))))) ρ = .ok (.lst [x0, x1, x2, x3, x4]) := by
  unfold lstE
  rw [al5 h0 h1 h2 h3 h4, Vs.R.bind_ok]
theorem te5 {ρ : Vs.Env} {a b c d e : Vs.Env → R D} {x0 x1 x2 x3 x4 : D} (h0 : a ρ = .ok x0) (h1 : b ρ = .ok x1) (h2 : c ρ = .ok x2) (h3 : d ρ = .ok x3) (h4 : e ρ = .ok x4) : tupE (consA a (consA b (consA c (consA d (consA e nilA))))) ρ = .ok (.tup [x0, x1, x2, x3, x4]) := by
  unfold tupE
  rw [al5 h0 h1 h2 h3 h4, Vs.R.bind_ok]
theorem cf6 {ρ : Vs.Env} {m : List D → R D} {a b c d e f : Vs.Env → R D} {x0 x1 x2 x3 x4 x5 : D} (h0 : a ρ = .ok x0) (h1 : b ρ = .ok x1) (h2 : c ρ = .ok x2) (h3 : d ρ = .ok x3) (h4 : e ρ = .ok x4) (h5 : f ρ = .ok x5) : callF m (consA a (consA b (consA c (consA d (consA e (consA f nilA)))))) ρ = m [x0, x1, x2, x3, x4, x5] := by
  unfold callF
  rw [al6 h0 h1 h2 h3 h4 h5, Vs.R.bind_ok]
theorem cb6_ {ρ : Vs.Env} {m : List D → R D} {a b c d e f : Vs.Env → R D} {x0 x1 x2 x3 x4 x5 : D} (h0 : a ρ = .ok x0) (h1 : b ρ = .ok x1) (h2 : c ρ = .ok x2) (h3 : d ρ = .ok x3) (h4 : e ρ = .ok x4) (h5 : f ρ = .ok x5) : callB m (consA a (consA b (consA c (consA d (consA e (consA f nilA)))))) ρ = m [x0, x1, x2, x3, x4, x5] := by
  unfold callB
  rw [al6 h0 h1 h2 h3 h4 h5, Vs.R.bind_ok]
theorem le6 {ρ : Vs.Env} {a b c d e f : Vs.Env → R D} {x0 x1 x2 x3 x4 x5 : D} (h0 : a ρ = .ok x0) (h1 : b ρ = .ok x1) (h2 : c ρ = .ok x2) (h3 : d ρ = .ok x3) (h4 : e ρ = .ok x4) (h5 : f ρ = .ok x5) : lstE (consA a (consA b (consA c (consA d (consA e (consA f nilA)))))) ρ = .ok (.lst [x0, x1, x2, x3, x4, x5]) := by
  unfold lstE
  rw [al6 h0 h1 h2 h3 h4 h5, Vs.R.bind_ok]
theorem te6 {ρ : Vs.Env} {a b c d e f : Vs.Env → R D} {x0 x1 x2 x3 x4 x5 : D} (h0 : a ρ = .ok x0) (h1 : b ρ = .ok x1) (h2 : c ρ = .ok x2) (h3 : d ρ = .ok x3) (h4 : e ρ = .ok x4) (h5 : f ρ = .ok x5) : tupE (consA a (consA b (consA c (consA d (consA e (consA f nilA)))))) ρ = .ok (.tup [x0, x1, x2, x3, x4, x5]) := by
  unfold tupE
  rw [al6 h0 h1 h2 h3 h4 h5, Vs.R.bind_ok]
theorem cf7 {ρ : Vs.Env} {m : List D → R D} {a b c d e f g : Vs.Env → R D} {x0 x1 x2 x3 x4 x5 x6 : D} (h0 : a ρ = .ok x0) (h1 : b ρ = .ok x1) (h2 : c ρ = .ok x2) (h3 : d ρ = .ok x3) (h4 : e ρ = .ok x4) (h5 : f ρ = .ok x5) (h6 : g ρ = .ok x6) : callF m (consA a (consA b (consA c (consA d (consA e (consA f (consA g nilA))))))) ρ = m [x0, x1, x2, x3, x4, x5, x6] := by
  unfold callF
  rw [al7 h0 h1 h2 h3 h4 h5 h6, Vs.R.bind_ok]
theorem cb7_ {ρ : Vs.Env} {m : List D → R D} {a b c d e f g : Vs.Env → R D} {x0 x1 x2 x3 x4 x5 x6 : D} (h0 : a ρ = .ok x0) (h1 : b ρ = .ok x1) (h2 : c ρ = .ok x2) (h3 : d ρ = .ok x3) (h4 : e ρ = .ok x4) (h5 : f ρ = .ok x5) (h6 : g ρ = .ok x6) : callB m (consA a (consA b (consA c (consA d (consA e (consA f (consA g nilA))))))) ρ = m [x0, x1, x2, x3, x4, x5, x6] := by
  unfold callB
  rw [al7 h0 h1 h2 h3 h4 h5 h6, Vs.R.bind_ok]
theorem le7 {ρ : Vs.Env} {a b c d e f g : Vs.Env → R D} {x0 x1 x2 x3 x4 x5 x6 : D} (h0 : a ρ = .ok x0) (h1 : b ρ = .ok x1) (h2 : c ρ = .ok x2) (h3 : d ρ = .ok x3) (h4 : e ρ = .ok x4) (h5 : f ρ = .ok x5) (h6 : g ρ = .ok x6) : lstE (consA a (consA b (consA c (consA d (consA e (consA f (consA g nilA))))))) ρ = .ok (.lst [x0, x1, x2, x3, x4, x5, x6]) := by
  unfold lstE
  rw [al7 h0 h1 h2 h3 h4 h5 h6, Vs.R.bind_ok]
theorem te7 {ρ : Vs.Env} {a b c d e f g : Vs.Env → R D} {x0 x1 x2 x3 x4 x5 x6 : D} (h0 : a ρ = .ok x0) (h1 : b ρ = .ok x1) (h2 : c ρ = .ok x2) (h3 : d ρ = .ok x3) (h4 : e ρ = .ok x4) (h5 : f ρ = .ok x5) (h6 : g ρ = .ok x6) : tupE (consA a (consA b (consA c (consA d (consA e (consA f (consA g nilA))))))) ρ = .ok (.tup [x0, x1, x2, x3, x4, x5, x6]) := by
  unfold tupE
  rw [al7 h0 h1 h2 h3 h4 h5 h6, Vs.R.bind_ok]
theorem cd2 {ρ : Vs.Env} {m : List D → R D} {ds : List D} {a b : Vs.Env → R D} {x0 x1 : D} (h0 : a ρ = .ok x0) (h1 : b ρ = .ok x1) : callF m (dflA (consA a (consA b nilA)) ds) ρ = m ([x0, x1] ++ ds) := by
  unfold callF dflA
  rw [al2 h0 h1, Vs.R.bind_ok, Vs.R.bind_ok]
theorem cd3 {ρ : Vs.Env} {m : List D → R D} {ds : List D} {a b c : Vs.Env → R D} {x0 x1 x2 : D} (h0 : a ρ = .ok x0) (h1 : b ρ = .ok x1) (h2 : c ρ = .ok x2) : callF m (dflA (consA a (consA b (consA c nilA))) ds) ρ = m ([x0, x1, x2] ++ ds) := by
  unfold callF dflA
  rw [al3 h0 h1 h2, Vs.R.bind_ok, Vs.R.bind_ok]
theorem cd4 {ρ : Vs.Env} {m : List D → R D} {ds : List D} {a b c d : Vs.Env → R D} {x0 x1 x2 x3 : D} (h0 : a ρ = .ok x0) (h1 : b ρ = .ok x1) (h2 : c ρ = .ok x2) (h3 : d ρ = .ok x3) : callF m (dflA (consA a (consA b (consA c (consA d nilA)))) ds) ρ = m ([x0, x1, x2, x3] ++ ds) := by
  unfold callF dflA
  rw [al4 h0 h1 h2 h3, Vs.R.bind_ok, Vs.R.bind_ok]
theorem imm_ok {f : Vs.Env → R D} {ρ : Vs.Env} {d : D} (h : f ρ = .ok d) (m : immD d = true) : imm f ρ = .ok d := by
  unfold imm
  rw [h, Vs.R.bind_ok, if_pos m]
theorem ret_ok {f : Vs.Env → R D} {ρ : Vs.Env} {d : D} (h : f ρ = .ok d) : retS f ρ = .rt d := by
  unfold retS
  rw [h]
  rfl
theorem ite_ok {f : Vs.Env → R D} {ρ : Vs.Env} {d : D} (h : f ρ = .ok d) : itV itemsR f ρ = itemsR d := by
  unfold itV
  rw [h, Vs.R.bind_ok]
theorem th_ok {f : Vs.Env → R D} {ρ : Vs.Env} {d : D} (h : f ρ = .ok d) : thawE f ρ = .ok (thaw d) := by
  unfold thawE
  rw [h, Vs.R.bind_ok]

/-! k39: a function that notes what it is asked -/
/-- the script's cell, 0 behind its end -/
def cell (ns : List Int) (k : Int) : Int := ns.getD k.toNat 0
theorem cell_at (ns : List Int) (k : Int) (h : 0 ≤ k) : m_law_cell_at [.lst (ns.map D.int), .int k] = .ok (.int (cell ns k)) := by
  rw [r_law_cell_at]
  simp only [b_law_cell_at]
  walk_at "ev"
  split
  · rename_i h2
    rw [ixD_ints h h2]
    walk_at "ev"
    rfl
  · rename_i h2
    unfold cell
    rw [List.getD_eq_getElem?_getD, List.getElem?_eq_none (by omega)]
    rfl
theorem whole_int (i : Int) : m_law_whole [.int i] = .ok (.bl true) := by
  rw [r_law_whole]
  simp only [b_law_whole]
  walk_at "ev"
theorem sk {t : Vs.Env → R Bool} {a q : Vs.Env → Sr} {ρ : Vs.Env} (h : t ρ = .ok false) : bodyR (seqS (ifS t a nilS) q ρ) = bodyR (q ρ) := by
  rw [seqS_eq, ifS_nl h, if_neg (by decide), seq_nx]
theorem noted_ok {xs : List Int} {m e : Int} (hl : xs.length < 16000000) : m_law_noted [.lst (xs.map D.int), .int m, .int e] = .ok (.bl (decide (e ≤ m))) [some (.lst ((xs ++ [m]).map D.int)), none, none] := by
  rw [r_law_noted]
  simp only [b_law_noted]
  rw [seqS_eq, appS_ints (v := m) (ns := xs) rfl rfl hl, seq_nx]
  rfl
theorem lam_ok {xs : List Int} {m e : Int} (hl : xs.length < 16000000) : m_law_right_lam [.int m, .int e, .lst (xs.map D.int)] = .ok (.bl (decide (e ≤ m))) [none, none, some (.lst ((xs ++ [m]).map D.int))] := by
  rw [r_law_right_lam]
  simp only [b_law_right_lam]
  have e1 : lendX 3 [0] m_law_noted (liftX (slP 2 (vlP (imm (varE 0)) (vlP (imm (varE 1)) nilP)))) [some (.int m), some (.int e), some (.lst (xs.map D.int))] = .ok (.bl (decide (e ≤ m))) [some (.int m), some (.int e), some (.lst ((xs ++ [m]).map D.int))] := by
    unfold lendX
    rw [show liftX (slP 2 (vlP (imm (varE 0)) (vlP (imm (varE 1)) nilP))) [some (.int m), some (.int e), some (.lst (xs.map D.int))] = .ok [.sl 2, .vl (.int m), .vl (.int e)] [some (.int m), some (.int e), some (.lst (xs.map D.int))] from rfl, RX.bind_ok]
    rw [show argsD [some (.int m), some (.int e), some (.lst (xs.map D.int))] [.sl 2, .vl (.int m), .vl (.int e)] = some [.lst (xs.map D.int), .int m, .int e] from rfl]
    simp only
    rw [if_pos ⟨rfl, fun i hi k hk ne => absurd (by rw [List.mem_singleton.mp hi, List.mem_singleton.mp hk]) ne, fun i hi hn => by
      have hi : i < 3 := by simpa using hi
      have : i = 1 ∨ i = 2 := by simp at hn; omega
      rcases this with rfl | rfl <;> rfl⟩, noted_ok hl]
    rfl
  unfold retXB
  rw [e1]
  rfl
/-- the numbers that are asked, and the number that is found -/
def ask (e : Int) : Nat → Int → Int → List Int → Int × List Int
  | 0, lo, _, as => (lo, as)
  | n + 1, lo, hi, as => if lo < hi then (if e ≤ (lo + hi) / 2 then ask e n lo ((lo + hi) / 2) (as ++ [(lo + hi) / 2]) else ask e n ((lo + hi) / 2 + 1) hi (as ++ [(lo + hi) / 2])) else (lo, as)
theorem ask_spec {e l h : Int} : ∀ (n : Nat) (lo hi : Int) (as : List Int), lo ≤ hi → (hi - lo).natAbs < 2 ^ n → l ≤ lo → hi ≤ h → (∀ a ∈ as, l ≤ a ∧ a ≤ h) → e ≤ hi →
    (ask e n lo hi as).1 = (if e < lo then lo else e) ∧ (ask e n lo hi as).2.length ≤ as.length + n ∧ ∀ a ∈ (ask e n lo hi as).2, l ≤ a ∧ a ≤ h
  | 0, lo, hi, as, h1, h2, h3, h4, h5, h6 => by
    have : hi = lo := by
      have : (hi - lo).natAbs < 1 := h2
      omega
    subst this
    refine ⟨?_, Nat.le_refl _, h5⟩
    show hi = _
    split <;> omega
  | n + 1, lo, hi, as, h1, h2, h3, h4, h5, h6 => by
    unfold ask
    by_cases c : lo < hi
    · rw [if_pos c]
      have hp : (2 : Nat) ^ (n + 1) = 2 * 2 ^ n := by rw [Nat.pow_succ]; omega
      have h5' : ∀ a ∈ as ++ [(lo + hi) / 2], l ≤ a ∧ a ≤ h := fun a ha => by
        rcases List.mem_append.mp ha with z | z
        · exact h5 a z
        · rw [List.mem_singleton.mp z]
          omega
      by_cases q : e ≤ (lo + hi) / 2
      · rw [if_pos q]
        have r := ask_spec n lo ((lo + hi) / 2) (as ++ [(lo + hi) / 2]) (by omega) (by omega) h3 (by omega) h5' q
        rw [List.length_append, List.length_singleton] at r
        exact ⟨r.1, by omega, r.2.2⟩
      · rw [if_neg q]
        have r := ask_spec n ((lo + hi) / 2 + 1) hi (as ++ [(lo + hi) / 2]) (by omega) (by omega) (by omega) h4 h5' h6
        rw [List.length_append, List.length_singleton] at r
        refine ⟨?_, by omega, r.2.2⟩
        rw [r.1, if_neg (show ¬ e < lo by omega)]
        split <;> omega
    · rw [if_neg c]
      refine ⟨?_, Nat.le_add_right _ _, h5⟩
      show lo = _
      split <;> omega
theorem ask_long {e : Int} : ∀ (n : Nat) (lo hi : Int) (as : List Int), (ask e n lo hi as).2.length ≤ as.length + n
  | 0, _, _, _ => Nat.le_refl _
  | n + 1, lo, hi, as => by
    unfold ask
    split
    · split
      · have := ask_long (e := e) n lo ((lo + hi) / 2) (as ++ [(lo + hi) / 2])
        rw [List.length_append, List.length_singleton] at this
        omega
      · have := ask_long (e := e) n ((lo + hi) / 2 + 1) hi (as ++ [(lo + hi) / 2])
        rw [List.length_append, List.length_singleton] at this
        omega
    · show as.length ≤ _
      omega
section
variable {e : Int}
theorem turn39 {xs : List Int} (hl : xs.length < 16000000) (lo hi : Int) (z : D) (x5 : Option D) :
    (seqS (asgS 5 (op2 fdivD (op2 addD (varE 0) (varE 1)) (cE (.int 2)))) (ifX (boolX (holdC z 2 (capX 3 [2] m_law_right_lam [(3, false), (4, true)] (liftX (vlP (imm (varE 5)) nilP))))) (asgS 1 (imm (varE 5))) (asgS 0 (op2 addD (varE 5) (cE (.int 1)))))) [some (.int lo), some (.int hi), some z, some (.int e), some (.lst (xs.map D.int)), x5] =
      if e ≤ (lo + hi) / 2 then .nx [some (.int lo), some (.int ((lo + hi) / 2)), some z, some (.int e), some (.lst ((xs ++ [(lo + hi) / 2]).map D.int)), some (.int ((lo + hi) / 2))] else .nx [some (.int ((lo + hi) / 2 + 1)), some (.int hi), some z, some (.int e), some (.lst ((xs ++ [(lo + hi) / 2]).map D.int)), some (.int ((lo + hi) / 2))] := by
  rw [seqS_eq, asg_ok (d := .int ((lo + hi) / 2)) (by
    rw [op2_v (x := .int (lo + hi)) (y := .int 2) (op2_v (x := .int lo) (y := .int hi) rfl rfl) rfl, fdivD_pos (by omega) (by omega)]), seq_nx]
  simp only [List.set_cons_zero, List.set_cons_succ]
  generalize (lo + hi) / 2 = m
  have e1 : boolX (holdC z 2 (capX 3 [2] m_law_right_lam [(3, false), (4, true)] (liftX (vlP (imm (varE 5)) nilP)))) [some (.int lo), some (.int hi), some z, some (.int e), some (.lst (xs.map D.int)), some (.int m)] = .ok (decide (e ≤ m)) [some (.int lo), some (.int hi), some z, some (.int e), some (.lst ((xs ++ [m]).map D.int)), some (.int m)] := by
    unfold boolX
    rw [holdC_eq rfl]
    unfold capX
    rw [show (liftX (vlP (imm (varE 5)) nilP)) [some (.int lo), some (.int hi), some z, some (.int e), some (.lst (xs.map D.int)), some (.int m)] = .ok [.vl (.int m)] [some (.int lo), some (.int hi), some z, some (.int e), some (.lst (xs.map D.int)), some (.int m)] from rfl]
    rw [RX.bind_ok]
    unfold capR
    rw [show capsA [(3, false), (4, true)] [some (.int lo), some (.int hi), some z, some (.int e), some (.lst (xs.map D.int)), some (.int m)] = some [.vl (.int e), .sl 4] from rfl]
    simp only
    rw [show argsD [some (.int lo), some (.int hi), some z, some (.int e), some (.lst (xs.map D.int)), some (.int m)] ([.vl (.int m)] ++ [.vl (.int e), .sl 4]) = some [.int m, .int e, .lst (xs.map D.int)] from rfl]
    simp only
    rw [if_pos ⟨rfl, fun i hi k hk ne => absurd (by rw [List.mem_singleton.mp hi, List.mem_singleton.mp hk]) ne, fun i hi hn => by
      have hi : i < 3 := by simpa using hi
      have : i = 0 ∨ i = 1 := by simp at hn; omega
      rcases this with rfl | rfl <;> rfl⟩, lam_ok hl]
    rfl
  unfold ifX
  rw [e1]
  simp only [bindX_ok]
  by_cases q : e ≤ m
  · rw [if_pos (decide_eq_true q), if_pos q, asg_ok (d := .int m) rfl]
    rfl
  · rw [if_neg (by simpa using q), if_neg q, asg_ok (d := .int (m + 1)) (op2_v (x := .int m) (y := .int 1) rfl rfl)]
    rfl
theorem loop39 (z : D) : ∀ (n : Nat) (lo hi : Int) (xs : List Int) (x5 : Option D), lo ≤ hi → (hi - lo).natAbs < 2 ^ n → xs.length + n < 16000000 → ∃ h' x5', whileL (boolR (op2 ltD (varE 0) (varE 1))) (seqS (asgS 5 (op2 fdivD (op2 addD (varE 0) (varE 1)) (cE (.int 2)))) (ifX (boolX (holdC z 2 (capX 3 [2] m_law_right_lam [(3, false), (4, true)] (liftX (vlP (imm (varE 5)) nilP))))) (asgS 1 (imm (varE 5))) (asgS 0 (op2 addD (varE 5) (cE (.int 1)))))) (n + 1)
    [some (.int lo), some (.int hi), some z, some (.int e), some (.lst (xs.map D.int)), x5] = .nx [some (.int (ask e n lo hi xs).1), h', some z, some (.int e), some (.lst ((ask e n lo hi xs).2.map D.int)), x5']
  | n, lo, hi, xs, x5, h1, h2, h3 => by
    have t : boolR (op2 ltD (varE 0) (varE 1)) [some (.int lo), some (.int hi), some z, some (.int e), some (.lst (xs.map D.int)), x5] = .ok (decide (lo < hi)) := boolR_2 (x := .int lo) (y := .int hi) rfl rfl rfl
    rw [whileL, t, bindS_ok]
    by_cases cc : lo < hi
    rotate_left
    · refine ⟨some (.int hi), x5, ?_⟩
      rw [decide_eq_false cc, if_neg (by decide), show ask e n lo hi xs = (lo, xs) by cases n <;> simp [ask, cc]]
    rw [decide_eq_true cc, if_pos rfl, turn39 (by omega) lo hi z x5]
    cases n with
    | zero =>
      have : (hi - lo).natAbs < 1 := h2
      omega
    | succ n =>
      have hp : (2 : Nat) ^ (n + 1) = 2 * 2 ^ n := by rw [Nat.pow_succ]; omega
      by_cases q : e ≤ (lo + hi) / 2
      · rw [if_pos q]
        obtain ⟨h', x5', e1⟩ := loop39 z n lo ((lo + hi) / 2) (xs ++ [(lo + hi) / 2]) (some (.int ((lo + hi) / 2))) (by omega) (by omega) (by rw [List.length_append, List.length_singleton]; omega)
        refine ⟨h', x5', ?_⟩
        show whileL _ _ (n + 1) [some (.int lo), some (.int ((lo + hi) / 2)), some z, some (.int e), some (.lst ((xs ++ [(lo + hi) / 2]).map D.int)), some (.int ((lo + hi) / 2))] = _
        rw [e1, ask, if_pos cc, if_pos q]
      · rw [if_neg q]
        obtain ⟨h', x5', e1⟩ := loop39 z n ((lo + hi) / 2 + 1) hi (xs ++ [(lo + hi) / 2]) (some (.int ((lo + hi) / 2))) (by omega) (by omega) (by rw [List.length_append, List.length_singleton]; omega)
        refine ⟨h', x5', ?_⟩
        show whileL _ _ (n + 1) [some (.int ((lo + hi) / 2 + 1)), some (.int hi), some z, some (.int e), some (.lst ((xs ++ [(lo + hi) / 2]).map D.int)), some (.int ((lo + hi) / 2))] = _
        rw [e1, ask, if_pos cc, if_neg q]
theorem least39 (z : D) {n : Nat} {lo hi : Int} (h1 : lo ≤ hi) (h2 : (hi - lo).natAbs < 2 ^ n) (h3 : n < 1000) : m_least_law_right_lam [.int lo, .int hi, z, .int e, .lst []] = .ok (.int (ask e n lo hi []).1) [none, none, none, none, some (.lst ((ask e n lo hi []).2.map D.int))] := by
  rw [r_least_law_right_lam]
  simp only [b_least_law_right_lam]
  obtain ⟨h', x5', e1⟩ := loop39 (e := e) z n lo hi [] none h1 h2 (by rw [List.length_nil]; omega)
  rw [seqS_eq, whileS_eq (n := n + 1) (by
    show whileL _ _ _ [some (.int lo), some (.int hi), some z, some (.int e), some (.lst ([].map D.int)), none] ≠ _
    rw [e1]
    exact fun z => by cases z)]
  show bodyB [4] 5 ((whileL _ _ _ [some (.int lo), some (.int hi), some z, some (.int e), some (.lst ([].map D.int)), none]).seq _) = _
  rw [e1, seq_nx]
  rfl
end
theorem few_loop (x0 x1 x2 : D) {l h : Int} : ∀ (as : List Int) (x3 : Option D), (∀ a ∈ as, l ≤ a ∧ a ≤ h) → ∃ x3', forL (tgN 3) (ifS (orT (notT (boolR (callF m_law_whole (consA (varE 3) nilA)))) (notT (boolR (chD leD leD (varE 1) (varE 3) (varE 2))))) (retS (cE (.bl false))) nilS) (as.map D.int) [some x0, some (.int l), some (.int h), x3] = .nx [some x0, some (.int l), some (.int h), x3']
  | [], x3, _ => ⟨x3, rfl⟩
  | a :: as, x3, k => by
    obtain ⟨x3', ih⟩ := few_loop x0 x1 x2 as (some (.int a)) fun b hb => k b (List.mem_cons_of_mem _ hb)
    refine ⟨x3', ?_⟩
    obtain ⟨k1, k2⟩ := k a List.mem_cons_self
    rw [List.map_cons]
    unfold forL
    simp only [tgN, List.length_cons, List.length_nil, Nat.reduceLT, if_true, List.set_cons_zero, List.set_cons_succ]
    rw [ifS_nl (b := false) (orT_b (a := false) (b := false) (notT_b (a := true) (boolR_b ((cf1 rfl).trans (whole_int _)))) (notT_b (a := true) (boolR_b (by
      walk_at "ev"
      try rw [decide_eq_true k1]
      try rw [if_pos k1]
      try walk_at "ev"
      try rw [decide_eq_true k2])))), if_neg (by decide)]
    exact ih
theorem few_ok {l h : Int} {as : List Int} (k : ∀ a ∈ as, l ≤ a ∧ a ≤ h) (hl : as.length ≤ Builtin.Int.intBits (h - l) + 2) (hl2 : as.length < 16000000) : m_law_few [.lst (as.map D.int), .int l, .int h] = .ok (.bl true) := by
  rw [r_law_few]
  simp only [b_law_few]
  have el : callB lenD (consA (varE 0) nilA) [some (.lst (as.map D.int)), some (.int l), some (.int h), none] = .ok (.int as.length) := by
    rw [cb1_ (x0 := .lst (as.map D.int)) rfl]
    show R.ok (D.int ((as.map D.int).length : Nat)) = _
    rw [List.length_map]
  have eb : op2 addD (bitsE (op2 subD (varE 2) (varE 1))) (cE (.int 2)) [some (.lst (as.map D.int)), some (.int l), some (.int h), none] = .ok (.int ((Builtin.Int.intBits (h - l) : Nat) + 2)) := by
    rw [op2_v (x := .int (Builtin.Int.intBits (h - l) : Nat)) (y := .int 2) (by
      unfold bitsE
      rw [op2_v (x := .int h) (y := .int l) rfl rfl]
      rfl) rfl]
    rfl
  rw [sk (boolR_2 (a := false) el eb (by
    show R.ok (D.bl (decide _)) = _
    rw [decide_eq_false (by omega)]))]
  rw [seqS_eq, forS]
  simp only [itV]
  obtain ⟨x3', e⟩ := few_loop (.lst (as.map D.int)) .non .non as none k
  rw [show (varE 0) [some (.lst (as.map D.int)), some (.int l), some (.int h), none] = .ok (.lst (as.map D.int)) from rfl, R.bind_ok]
  show bodyR ((forL _ _ (as.map D.int) _).seq _) = _
  rw [e, seq_nx]
  rfl
theorem due39 (l e : Int) : m_law_due [.int l, .int e] = .ok (.int (if e < l then l else e)) := by
  rw [r_law_due]
  simp only [b_law_due]
  rw [seqS_eq, ifS_nl (boolR_2 (x := .int e) (y := .int l) (a := decide (e < l)) rfl rfl rfl)]
  by_cases q : e < l
  · rw [if_pos (decide_eq_true q), if_pos q, ret_ok (d := .int l) rfl]
    rfl
  · rw [if_neg (by simpa using q), if_neg q, seq_nx, ret_ok (d := .int e) rfl]
    rfl
theorem right39 {lo hi e : Int} (h1 : lo ≤ hi) (h2 : e ≤ hi) (h3 : (hi - lo).natAbs < 2 ^ 900) : m_law_right [.int lo, .int hi, .int e] = .ok (.bl true) := by
  have hb : (hi - lo).natAbs < 2 ^ Builtin.Int.intBits (hi - lo) := intBits_le_iff.mp (Nat.le_refl _)
  have hb2 : Builtin.Int.intBits (hi - lo) ≤ 900 := intBits_le_iff.mpr h3
  obtain ⟨a1, a2, a3⟩ := ask_spec (e := e) (l := lo) (h := hi) (Builtin.Int.intBits (hi - lo)) lo hi [] h1 hb (Int.le_refl _) (Int.le_refl _) (fun a ha => nomatch ha) h2
  rw [r_law_right]
  simp only [b_law_right]
  rw [seqS_eq, asg_ok (d := .lst []) rfl, seq_nx]
  simp only [List.set_cons_zero, List.set_cons_succ]
  have ec : callL 2 5 [4] m_least_law_right_lam [(2, false), (3, true)] (imm (varE 0)) (imm (varE 1)) [some (.int lo), some (.int hi), some (.int e), some (.lst []), none] = .ok (.int (ask e (Builtin.Int.intBits (hi - lo)) lo hi []).1) [some (.int lo), some (.int hi), some (.int e), some (.lst ((ask e (Builtin.Int.intBits (hi - lo)) lo hi []).2.map D.int)), none] := by
    unfold callL
    show uniX (fun f F => capZ 2 (.cl f F) 5 [4] m_least_law_right_lam [(2, false), (3, true)] [.vl (.int lo), .vl (.int hi), .vl (.cl f F)] [some (.int lo), some (.int hi), some (.int e), some (.lst []), none]) = _
    refine uniX_eq fun f F => ?_
    rw [capZ_eq (i := 2) (n := 5) (as := [.vl (.int lo), .vl (.int hi), .vl (.cl f F)]) (bs := [.vl (.int e), .sl 3]) (ds := [.int lo, .int hi, .cl f F, .int e, .lst []]) rfl rfl rfl rfl ⟨fun i hi k hk ne => absurd (by rw [List.mem_singleton.mp hi, List.mem_singleton.mp hk]) ne, fun i hi hn => by
      have hi : i < 5 := by simpa using hi
      have : i = 0 ∨ i = 1 ∨ i = 2 ∨ i = 3 := by simp at hn; omega
      rcases this with rfl | rfl | rfl | rfl <;> rfl⟩, least39 (.cl f F) h1 hb (by omega)]
    rfl
  generalize ask e (Builtin.Int.intBits (hi - lo)) lo hi [] = r at a1 a2 a3 ec
  rw [seqS_eq]
  unfold setX
  rw [ec]
  simp only [bindX_ok]
  rw [seq_nx]
  simp only [List.set_cons_zero, List.set_cons_succ]
  rw [List.length_nil] at a2
  rw [ret_ok (d := .bl true) (by
    rw [andE_b (a := true) (b := true) ((cf1 rfl).trans (whole_int _)) (by
      rw [andE_b (a := true) (b := true) (by
        rw [op2_v (x := .int r.1) (y := .int (if e < lo then lo else e)) rfl ((cf2 (x0 := .int lo) (x1 := .int e) rfl rfl).trans (due39 lo e)), eqD_int, a1, decide_eq_true rfl]) ((cf3 (x0 := .lst (r.2.map D.int)) (x1 := .int lo) (x2 := .int hi) rfl rfl rfl).trans (few_ok a3 (by omega) (by omega)))]
      rfl)]
    rfl)]
  rfl
theorem pow60 : powD (.int 10) (.int 60) = .ok (.int (10 ^ 60)) := powD_ok (by decide) (by decide) (by decide) (by decide)
theorem law_true : ∀ ns, Scr ns → m_law [.lst (ns.map D.int)] = .ok (.bl true) := by
  intro ns hs
  rw [r_law]
  simp only [b_law]
  have ep : ∀ ρ : Vs.Env, op2 powD (cE (.int 10)) (cE (.int 60)) ρ = .ok (.int (10 ^ 60)) := fun ρ => (op2_v (x := .int 10) (y := .int 60) rfl rfl).trans pow60
  have ecell : ∀ (k : Int) (ρ : Vs.Env), 0 ≤ k → ρ[0]? = some (some (.lst (ns.map D.int))) → callF m_law_cell_at (consA (varE 0) (consA (cE (.int k)) nilA)) ρ = .ok (.int (cell ns k)) := fun k ρ hk h => (cf2 (x0 := .lst (ns.map D.int)) (x1 := .int k) (by unfold varE; rw [h]) rfl).trans (cell_at _ _ hk)
  have m60 : ∀ z : Int, modD (.int z) (.int (10 ^ 60)) = .ok (.int (z % 10 ^ 60)) := fun z => modD_pos (by decide)
  have bound : ∀ z : Int, 0 ≤ z % 10 ^ 60 ∧ z % 10 ^ 60 < 10 ^ 60 := fun z => ⟨Int.emod_nonneg _ (by decide), Int.emod_lt_of_pos _ (by decide)⟩
  rw [seqS_eq, asg_ok (d := .int (cell ns 0 % 10 ^ 60)) (by rw [op2_v (ecell 0 _ (by decide) rfl) (ep _), m60]), seq_nx]
  simp only [List.set_cons_zero, List.set_cons_succ]
  rw [seqS_eq, asg_ok (d := .int 0) rfl, seq_nx]
  simp only [List.set_cons_zero, List.set_cons_succ]
  generalize cell ns 0 % 10 ^ 60 = lo
  have t : ∀ (j : Int) (ρ : Vs.Env), ρ[0]? = some (some (.lst (ns.map D.int))) → boolR (op2 eqD (op2 modD (callF m_law_cell_at (consA (varE 0) (consA (cE (.int 1)) nilA))) (cE (.int 3))) (cE (.int j))) ρ = .ok (decide (cell ns 1 % 3 = j)) := fun j ρ h => boolR_2 (x := .int (cell ns 1 % 3)) (y := .int j) (by rw [op2_v (ecell 1 ρ (by decide) h) (y := .int 3) rfl, modD_pos (by omega)]) rfl (eqD_int _ _)
  have ed : ∀ (ρ : Vs.Env), ρ[0]? = some (some (.lst (ns.map D.int))) → op2 fdivD (callF m_law_cell_at (consA (varE 0) (consA (cE (.int 1)) nilA))) (cE (.int 3)) ρ = .ok (.int (cell ns 1 / 3)) := fun ρ h => by rw [op2_v (ecell 1 ρ (by decide) h) (y := .int 3) rfl, fdivD_pos (by omega) (by omega)]
  obtain ⟨size, s0, s1, es⟩ : ∃ size : Int, 0 ≤ size ∧ size < 10 ^ 60 ∧ ∀ q : Vs.Env → Sr, (ifS (boolR (op2 eqD (op2 modD (callF m_law_cell_at (consA (varE 0) (consA (cE (.int 1)) nilA))) (cE (.int 3))) (cE (.int 1)))) (asgS 2 (op2 modD (op2 fdivD (callF m_law_cell_at (consA (varE 0) (consA (cE (.int 1)) nilA))) (cE (.int 3))) (op2 powD (cE (.int 10)) (cE (.int 60))))) nilS [some (.lst (ns.map D.int)), some (.int lo), some (.int 0), none, none, none]).seq (seqS (ifS (boolR (op2 eqD (op2 modD (callF m_law_cell_at (consA (varE 0) (consA (cE (.int 1)) nilA))) (cE (.int 3))) (cE (.int 2)))) (asgS 2 (op2 modD (op2 fdivD (callF m_law_cell_at (consA (varE 0) (consA (cE (.int 1)) nilA))) (cE (.int 3))) (cE (.int 12)))) nilS) q) = q [some (.lst (ns.map D.int)), some (.int lo), some (.int size), none, none, none] := by
    by_cases q1 : cell ns 1 % 3 = 1
    · refine ⟨cell ns 1 / 3 % 10 ^ 60, (bound _).1, (bound _).2, fun q => ?_⟩
      rw [ifS_nl (t 1 _ rfl), if_pos (decide_eq_true q1), asg_ok (d := .int (cell ns 1 / 3 % 10 ^ 60)) (by rw [op2_v (ed _ rfl) (ep _), m60]), seq_nx]
      simp only [List.set_cons_zero, List.set_cons_succ]
      rw [seqS_eq, ifS_nl (t 2 _ rfl), if_neg (by simp; omega), seq_nx]
    · by_cases q2 : cell ns 1 % 3 = 2
      · have a1 := Int.emod_nonneg (cell ns 1 / 3) (show (12 : Int) ≠ 0 by decide)
        have a2 := Int.emod_lt_of_pos (cell ns 1 / 3) (show (0 : Int) < 12 by decide)
        refine ⟨cell ns 1 / 3 % 12, a1, Int.lt_of_lt_of_le a2 (by decide), fun q => ?_⟩
        rw [ifS_nl (t 1 _ rfl), if_neg (by simpa using q1), seq_nx, seqS_eq, ifS_nl (t 2 _ rfl), if_pos (decide_eq_true q2), asg_ok (d := .int (cell ns 1 / 3 % 12)) (by rw [op2_v (ed _ rfl) (y := .int 12) rfl, modD_pos (by omega)]), seq_nx]
        simp only [List.set_cons_zero, List.set_cons_succ]
      · refine ⟨0, by decide, by decide, fun q => ?_⟩
        rw [ifS_nl (t 1 _ rfl), if_neg (by simpa using q1), seq_nx, seqS_eq, ifS_nl (t 2 _ rfl), if_neg (by simpa using q2), seq_nx]
  rw [seqS_eq, es]
  rw [seqS_eq, asg_ok (d := .int (lo + size)) (op2_v (x := .int lo) (y := .int size) rfl rfl), seq_nx]
  simp only [List.set_cons_zero, List.set_cons_succ]
  have edge : ∀ (k : Int) (ρ : Vs.Env), 0 ≤ k → ρ[0]? = some (some (.lst (ns.map D.int))) → ρ[2]? = some (some (.int size)) → ρ[3]? = some (some (.int (lo + size))) → op2 subD (varE 3) (op2 modD (callF m_law_cell_at (consA (varE 0) (consA (cE (.int k)) nilA))) (op2 addD (varE 2) (cE (.int 2)))) ρ = .ok (.int (lo + size - cell ns k % (size + 2))) := fun k ρ hk e0 e2 e3 => by
    rw [op2_v (x := .int (lo + size)) (y := .int (cell ns k % (size + 2))) (by unfold varE; rw [e3]) (by
      rw [op2_v (ecell k ρ hk e0) (y := .int (size + 2)) (op2_v (x := .int size) (y := .int 2) (by unfold varE; rw [e2]) rfl), modD_pos (by omega)])]
    rfl
  have le : ∀ k : Int, lo + size - cell ns k % (size + 2) ≤ lo + size := fun k => by
    have := Int.emod_nonneg (cell ns k) (show size + 2 ≠ 0 by omega)
    omega
  rw [seqS_eq, asg_ok (edge 2 _ (by decide) rfl rfl rfl), seq_nx]
  simp only [List.set_cons_zero, List.set_cons_succ]
  rw [seqS_eq, asg_ok (edge 3 _ (by decide) rfl rfl rfl), seq_nx]
  simp only [List.set_cons_zero, List.set_cons_succ]
  have big : (lo + size - lo).natAbs < 2 ^ 900 := by
    have : (lo + size - lo).natAbs < 10 ^ 60 := by omega
    exact Nat.lt_of_lt_of_le this (by decide)
  have r2 := right39 (lo := lo) (hi := lo + size) (by omega) (le 2) big
  have r3 := right39 (lo := lo) (hi := lo + size) (by omega) (le 3) big
  rw [sk (orT_b (a := false) (b := false) (notT_b (a := true) (boolR_b ((cf3 rfl rfl rfl).trans r2))) (notT_b (a := true) (boolR_b ((cf3 rfl rfl rfl).trans r3))))]
  rw [ret_ok (d := .bl true) ((cf3 rfl rfl rfl).trans r2)]
  rfl

end Lw

namespace Lw
open PySem PySem.Spec PyProof.Rows L2 Vs
abbrev csL : List (Addr × Addr) := [(cd_law_right, tp_law_right)]
theorem all_mk {w : World} {K : PySem.W.Frag} {h : Heap} {mg : Str → Option Value} {fa : Addr} (X : K.In h) (G : h.Ns mainGlobals mg) (hfa : mg "law" = some (.ref fa)) (d_law_cell_at : DefK K "_law_cell_at" s_law_cell_at) (d_law_whole : DefK K "_law_whole" s_law_whole) (d_law_noted : DefK K "_law_noted" s_law_noted) (d_law_due : DefK K "_law_due" s_law_due) (d_law_few : DefK K "_law_few" s_law_few) (d_law_right : DefCK K "_law_right" s_law_right cd_law_right) (d_law : DefK K "law" s_law) (d_least : DefK K "least" s_least) (n_bool : NoK K "bool") (n_int : NoK K "int") (n_isinstance : NoK K "isinstance") (n_len : NoK K "len") :
    ∃ fd : FuncData, (∀ (s : Shared) (u : Value), BindsTo s fd ⟨[u], []⟩ [("_law_script", u)]) ∧ ∀ base : Heap, K.In base → base.Ns mainGlobals mg → (∀ p ∈ csL, LamX.TabB base mg p.1 p.2) → FnOk PySem.Challenge.rw_liftwave_k39_least.prog w K mg base (L2.CX PySem.Challenge.rw_liftwave_k39_least.prog w) 5 fa fd ["_law_script"] (spLawT K) := by
  have T : Txt w K mg := ⟨no_of X G n_bool, no_of X G n_int, no_of X G n_isinstance, no_of X G n_len⟩
  refine law_endT (cs := csL) (k := 4) (N := ["_law_script", "_law_low", "_law_size", "_law_high", "_law_edge", "_law_other"]) (b := b_law) (own' := []) (defL_of X G hfa d_law) sc_law (by decide) (fun _ _ _ _ _ _ s v => .of_eq rfl) (fun base _ _ TB => ?_) Lw.law_true
  have k_law_cell_at := c_law_cell_at (P := PySem.Challenge.rw_liftwave_k39_least.prog) (w := w) (base := base) T (def_of X G d_law_cell_at)
  have k_law_whole := c_law_whole (P := PySem.Challenge.rw_liftwave_k39_least.prog) (w := w) (base := base) T (def_of X G d_law_whole)
  have k_law_noted := c_law_noted (P := PySem.Challenge.rw_liftwave_k39_least.prog) (w := w) (base := base) T (def_of X G d_law_noted)
  have k_law_due := c_law_due (P := PySem.Challenge.rw_liftwave_k39_least.prog) (w := w) (base := base) T (def_of X G d_law_due)
  have k_law_few := c_law_few (P := PySem.Challenge.rw_liftwave_k39_least.prog) (w := w) (base := base) T (def_of X G d_law_few) k_law_whole
  have k_law_right_lam := c_law_right_lam (P := PySem.Challenge.rw_liftwave_k39_least.prog) (w := w) (K := K) (mg := mg) (base := base) T k_law_noted
  have k_least_law_right_lam := c_least_law_right_lam (P := PySem.Challenge.rw_liftwave_k39_least.prog) (w := w) (K := K) (mg := mg) (base := base) T (def_of X G d_least) k_law_right_lam
  have k_law_right := c_law_right (P := PySem.Challenge.rw_liftwave_k39_least.prog) (w := w) (base := base) T (defC_of X G d_law_right) (TB (cd_law_right, tp_law_right) (by decide)) k_law_right_lam k_least_law_right_lam k_law_few k_law_due k_law_whole
  exact v_law T k_law_cell_at k_law_right
end Lw
open PySem PySem.W PyProof.Rows in
set_option maxRecDepth 100000 in
set_option maxHeartbeats 0 in
theorem PySem.Challenge.cw_liftwave_k39_least_holds : PySem.Challenge.rw_liftwave_k39_least.Holds := by
  w_on; o_law; k_head; (case hw => w_witness2)
  k_fill
  refine Vs.walkT (l := PySem.Challenge.rw_liftwave_k39_least) (k := 5) Lw.csL rfl rfl ⟨rfl, by decide, by decide⟩ (by decide) (fun w h Y => PySem.W.km_in_of Y) ?T ?K ?F
  case T => exact fun w h Y p hp => PySem.W.km_tabs_of Y p.2 (by revert p; decide)
  case K => exact fun w h Y => List.forall_mem_cons.mpr ⟨⟨by kernel_rfl, PySem.W.codeHd_of_K (PySem.W.km_in_of Y) (by kernel_rfl)⟩, fun _ z => nomatch z⟩
  case F =>
    intro w mg fa h _ KX G hmg
    refine' Lw.all_mk KX G hmg ?d_law_cell_at ?d_law_whole ?d_law_noted ?d_law_due ?d_law_few ?d_law_right ?d_law ?d_least ?n_bool ?n_int ?n_isinstance ?n_len
    (case d_law_cell_at => refine' Vs.defK_mk ?a ?l ?c ?k; (case a => k_is); (case l => k_is); (case c => k_is); (case k => k_is))
    (case d_law_whole => refine' Vs.defK_mk ?a ?l ?c ?k; (case a => k_is); (case l => k_is); (case c => k_is); (case k => k_is))
    (case d_law_noted => refine' Vs.defK_mk ?a ?l ?c ?k; (case a => k_is); (case l => k_is); (case c => k_is); (case k => k_is))
    (case d_law_due => refine' Vs.defK_mk ?a ?l ?c ?k; (case a => k_is); (case l => k_is); (case c => k_is); (case k => k_is))
    (case d_law_few => refine' Vs.defK_mk ?a ?l ?c ?k; (case a => k_is); (case l => k_is); (case c => k_is); (case k => k_is))
    (case d_law_right => refine' Vs.defCK_mk ?a ?l ?c ?k; (case a => k_is); (case l => k_is); (case c => k_is); (case k => k_is))
    (case d_law => refine' Vs.defK_mk ?a ?l ?c ?k; (case a => k_is); (case l => k_is); (case c => k_is); (case k => k_is))
    (case d_least => refine' Vs.defK_mk ?a ?l ?c ?k; (case a => k_is); (case l => k_is); (case c => k_is); (case k => k_is))
    (case n_bool => (unfold Vs.NoK; k_is))
    (case n_int => (unfold Vs.NoK; k_is))
    (case n_isinstance => (unfold Vs.NoK; k_is))
    (case n_len => (unfold Vs.NoK; k_is))
