import PyProof.Rows.All
import Wide.All
import OpenK.AllK
import Wide.FinOn
import HandS.ForMost
import HandS.Lambda
import HandS.TupAny
import HandS.Wide
import HandS.WideBits
import HandS.Deep
import HandS.TupLe
import HandS.Flow
import HandS.IsInst
import HandS.SortInts
import HandS.TupLen
import HandS.Comp
import HandS.Iter
import HandS.Zip
import HandS.List
import HandS.Dict
import HandS.Style
import HandS.Words
import HandS.Call
import HandS.SetFor
import HandS.Strs
import HandS.SortKw
import KE.KSortKey
import PyProof.Rows.RuleN_abs
import HandS.Ends
import HandS.Exc
import HandS.ExcOwn
import HandS.WordsExc
import PyProof.ReprRoads
import HandS.Zip0
import KE.GoesMore
import HandS.More
import HandS.TupMul
import HandS.NoneIn
import HandS.ExcField
import HandS.ExcSuper
import KE.KExcSuper
import HandS.TryMany
import HandS.EndTab
import HandS.EndOwn
import PySem.Challenge.RW_everycycle_k23_machines_refused
section
set_option Elab.async false
set_option linter.all false
set_option maxRecDepth 100000
namespace DL
open PySem L2

/-- data: what a value is worth, whatever the addresses -/
inductive D where
  | non | bl (b : Bool) | int (i : Int) | str (x : Str)
  | tup (xs : List D) | lst (xs : List D) | fz (xs : List D)
  | dk (ks : List Key) (vs : List D) | dt (ks : List (List Key)) (vs : List D)
  | ob (c : Str) (ns : List Str) (vs : List D)

/-- the written part and what the module's names hold -/
structure Kx where
  K : PySem.W.Frag
  mg : Str → Option Value

mutual
inductive Rep (κ : Kx) (F : Hp) : V → D → Prop
  | non : Rep κ F .non .non
  | bl (b : Bool) : Rep κ F (.bl b) (.bl b)
  | int (i : Int) : Rep κ F (.int i) (.int i)
  | str (x : Str) : Rep κ F (.str x) (.str x)
  | tup {a : Addr} {vs : List V} {ds : List D} : F a = some (.tup vs) → Reps κ F vs ds → Rep κ F (.ref a) (.tup ds)
  | lst {a : Addr} {vs : List V} {ds : List D} : F a = some (.lst vs) → Reps κ F vs ds → Rep κ F (.ref a) (.lst ds)
  | fz {a : Addr} {vs : List V} {ds : List D} : SqL κ.K F a vs → Reps κ F vs ds → Rep κ F (.ref a) (.fz ds)
  | dk {a : Addr} {kvs : List (Key × V)} {vs : List D} : F a = some (.dK kvs) → Reps κ F (kvs.map (·.2)) vs → Rep κ F (.ref a) (.dk (kvs.map (·.1)) vs)
  | dt {a : Addr} {kvs : List (List Key × V)} {vs : List D} : F a = some (.dT kvs) → Reps κ F (kvs.map (·.2)) vs → Rep κ F (.ref a) (.dt (kvs.map (·.1)) vs)
  | ob {a C dx : Addr} {c : Str} {fs : List (Str × V)} {vs : List D} : F a = some (.ins C dx fs) → κ.mg c = some (.ref C) → Reps κ F (fs.map (·.2)) vs → Rep κ F (.ref a) (.ob c (fs.map (·.1)) vs)
inductive Reps (κ : Kx) (F : Hp) : List V → List D → Prop
  | nil : Reps κ F [] []
  | cons {v : V} {vs : List V} {d : D} {ds : List D} : Rep κ F v d → Reps κ F vs ds → Reps κ F (v :: vs) (d :: ds)
end

theorem sqT_mono {K : PySem.W.Frag} {F F' : Hp} {a : Addr} {vs : List V} (e : Same F F') (h : SqT K F a vs) : SqT K F' a vs := by
  rcases h with (h | ⟨o, h⟩) | h
  · exact .inl (.inl (e _ _ h))
  · exact .inl (.inr ⟨o, e _ _ h⟩)
  · exact .inr h
mutual
theorem Rep.mono {κ : Kx} {F F' : Hp} (e : Same F F') : ∀ {v : V} {d : D}, Rep κ F v d → Rep κ F' v d
  | _, _, .non => .non
  | _, _, .bl b => .bl b
  | _, _, .int i => .int i
  | _, _, .str x => .str x
  | _, _, .tup h r => .tup (e _ _ h) (Reps.mono e r)
  | _, _, .lst h r => .lst (e _ _ h) (Reps.mono e r)
  | _, _, .fz h r => .fz (e.seq h) (Reps.mono e r)
  | _, _, .dk h r => .dk (e _ _ h) (Reps.mono e r)
  | _, _, .dt h r => .dt (e _ _ h) (Reps.mono e r)
  | _, _, .ob h m r => .ob (e _ _ h) m (Reps.mono e r)
theorem Reps.mono {κ : Kx} {F F' : Hp} (e : Same F F') : ∀ {vs : List V} {ds : List D}, Reps κ F vs ds → Reps κ F' vs ds
  | _, _, .nil => .nil
  | _, _, .cons h r => .cons (Rep.mono e h) (Reps.mono e r)
end
theorem Reps.length {κ : Kx} {F : Hp} : ∀ {vs : List V} {ds : List D}, Reps κ F vs ds → vs.length = ds.length
  | _, _, .nil => rfl
  | _, _, .cons _ r => by simp [Reps.length r]
theorem Reps.get {κ : Kx} {F : Hp} : ∀ {vs : List V} {ds : List D} (i : Nat) {d : D}, Reps κ F vs ds → ds[i]? = some d → ∃ v, vs[i]? = some v ∧ Rep κ F v d
  | _, _, _, _, .nil, e => by simp at e
  | _, _, 0, _, .cons h _, e => by simp at e; subst e; exact ⟨_, rfl, h⟩
  | _, _, i + 1, _, .cons _ r, e => by
    obtain ⟨v, h1, h2⟩ := Reps.get i r (by simpa using e)
    exact ⟨v, by simpa using h1, h2⟩
theorem Reps.append {κ : Kx} {F : Hp} : ∀ {vs ws : List V} {ds es : List D}, Reps κ F vs ds → Reps κ F ws es → Reps κ F (vs ++ ws) (ds ++ es)
  | _, _, _, _, .nil, s => s
  | _, _, _, _, .cons h r, s => .cons h (Reps.append r s)
theorem Reps.take {κ : Kx} {F : Hp} : ∀ {vs : List V} {ds : List D} (n : Nat), Reps κ F vs ds → Reps κ F (vs.take n) (ds.take n)
  | _, _, 0, _ => .nil
  | _, _, _ + 1, .nil => .nil
  | _, _, n + 1, .cons h r => .cons h (Reps.take n r)
theorem Reps.drop {κ : Kx} {F : Hp} : ∀ {vs : List V} {ds : List D} (n : Nat), Reps κ F vs ds → Reps κ F (vs.drop n) (ds.drop n)
  | _, _, 0, r => r
  | _, _, _ + 1, .nil => .nil
  | _, _, n + 1, .cons _ r => Reps.drop n r
theorem Reps.set {κ : Kx} {F : Hp} {v : V} {d : D} (h : Rep κ F v d) : ∀ {vs : List V} {ds : List D} (i : Nat), Reps κ F vs ds → Reps κ F (vs.set i v) (ds.set i d)
  | _, _, _, .nil => .nil
  | _, _, 0, .cons _ r => .cons h r
  | _, _, i + 1, .cons q r => .cons q (Reps.set h i r)
inductive Ct where
  | lst (ds : List D) | dk (ks : List Key) (vs : List D) | dt (ks : List (List Key)) (vs : List D)
inductive Fd where
  | sh (d : D) | ct (c : Ct)
/-- a record's head: an instance of a class, a dict -/
inductive Hd where
  | ob (c : Str) (ns : List Str) | dk (ks : List Key)
/-- what a slot holds -/
inductive O where
  | fd (f : Fd) | rc (h : Hd) (fs : List Fd)
abbrev O.sh (d : D) : O := .fd (.sh d)
abbrev O.lst (ds : List D) : O := .fd (.ct (.lst ds))
def Ct.toD : Ct → D
  | .lst ds => .lst ds
  | .dk ks vs => .dk ks vs
  | .dt ks vs => .dt ks vs
def Fd.toD : Fd → D
  | .sh d => d
  | .ct c => c.toD
def O.toD : O → D
  | .fd f => f.toD
  | .rc (.ob c ns) fs => .ob c ns (fs.map Fd.toD)
  | .rc (.dk ks) fs => .dk ks (fs.map Fd.toD)
def OwnC (κ : Kx) (F H : Hp) : Ct → Addr → Prop
  | .lst ds, a => ∃ vs, H a = some (.lst vs) ∧ Reps κ F vs ds
  | .dk ks ds, a => ∃ kvs, H a = some (.dK kvs) ∧ kvs.map (·.1) = ks ∧ Reps κ F (kvs.map (·.2)) ds
  | .dt ks ds, a => ∃ kvs, H a = some (.dT kvs) ∧ kvs.map (·.1) = ks ∧ Reps κ F (kvs.map (·.2)) ds
inductive OwnF (κ : Kx) (F H : Hp) : Fd → V → List Addr → Prop
  | sh {d : D} {v : V} : Rep κ F v d → OwnF κ F H (.sh d) v []
  | ct {c : Ct} {a : Addr} : OwnC κ F H c a → OwnF κ F H (.ct c) (.ref a) [a]
inductive OwnFs (κ : Kx) (F H : Hp) : List Fd → List V → List Addr → Prop
  | nil : OwnFs κ F H [] [] []
  | cons {f : Fd} {v : V} {S : List Addr} {fs : List Fd} {vs : List V} {T : List Addr} : OwnF κ F H f v S → OwnFs κ F H fs vs T → OwnFs κ F H (f :: fs) (v :: vs) (S ++ T)
inductive Own (κ : Kx) (F H : Hp) : O → V → List Addr → Prop
  | fd {f : Fd} {v : V} {S : List Addr} : OwnF κ F H f v S → Own κ F H (.fd f) v S
  | ob {a C dx : Addr} {c : Str} {fs : List (Str × V)} {gs : List Fd} {T : List Addr} : H a = some (.ins C dx fs) → κ.mg c = some (.ref C) → OwnFs κ F H gs (fs.map (·.2)) T →
      Own κ F H (.rc (.ob c (fs.map (·.1))) gs) (.ref a) (a :: T)
  | dk {a : Addr} {kvs : List (Key × V)} {gs : List Fd} {T : List Addr} : H a = some (.dK kvs) → OwnFs κ F H gs (kvs.map (·.2)) T →
      Own κ F H (.rc (.dk (kvs.map (·.1))) gs) (.ref a) (a :: T)

/-- what is owned stands as long as the owned cells stand and what is shared grows -/
theorem OwnC.mono {κ : Kx} {F F' H H' : Hp} {c : Ct} {a : Addr} (e : Same F F') (h : ∀ o, H a = some o → H' a = some o) (x : OwnC κ F H c a) : OwnC κ F' H' c a := by
  cases c with
  | lst ds => obtain ⟨vs, h1, h2⟩ := x; exact ⟨vs, h _ h1, h2.mono e⟩
  | dk ks ds => obtain ⟨vs, h1, h3, h2⟩ := x; exact ⟨vs, h _ h1, h3, h2.mono e⟩
  | dt ks ds => obtain ⟨vs, h1, h3, h2⟩ := x; exact ⟨vs, h _ h1, h3, h2.mono e⟩
theorem OwnF.mono {κ : Kx} {F F' H H' : Hp} {f : Fd} {v : V} {S : List Addr} (e : Same F F') (h : ∀ b ∈ S, ∀ o, H b = some o → H' b = some o) (x : OwnF κ F H f v S) : OwnF κ F' H' f v S := by
  cases x with
  | sh r => exact .sh (r.mono e)
  | ct r => exact .ct (r.mono e (h _ (by simp)))
theorem OwnFs.mono {κ : Kx} {F F' H H' : Hp} (e : Same F F') {fs : List Fd} {vs : List V} {S : List Addr} (x : OwnFs κ F H fs vs S) (h : ∀ b ∈ S, ∀ o, H b = some o → H' b = some o) : OwnFs κ F' H' fs vs S := by
  induction x with
  | nil => exact .nil
  | cons x _ ih => exact .cons (x.mono e fun b hb => h b (List.mem_append_left _ hb)) (ih fun b hb => h b (List.mem_append_right _ hb))
theorem Own.mono {κ : Kx} {F F' H H' : Hp} {o : O} {v : V} {S : List Addr} (e : Same F F') (h : ∀ b ∈ S, ∀ o, H b = some o → H' b = some o) (x : Own κ F H o v S) : Own κ F' H' o v S := by
  cases x with
  | fd r => exact .fd (r.mono e h)
  | ob r m q => exact .ob (h _ List.mem_cons_self _ r) m (q.mono e fun b hb => h b (List.mem_cons_of_mem _ hb))
  | dk r q => exact .dk (h _ List.mem_cons_self _ r) (q.mono e fun b hb => h b (List.mem_cons_of_mem _ hb))
/-- the defs that make lambdas -/
def lamDefs : List Str := ["law"]
def tabOf : Obj → Option (Addr × Str)
  | ⟨_, _, .fields vs, _⟩ => (match (vs[1]? : Option Value), (vs[11]? : Option Value) with
    | some (Value.str q _), some (Value.ref P) => if lamDefs.contains q then some (P, q ++ ".<locals>.<lambda>") else none
    | _, _ => none)
  | _ => none
/-- the tables of these defs, and the name that their code objects bear -/
def tabsOf (K : PySem.W.Frag) : List (Addr × Str) := K.filterMap fun p => tabOf p.2
def TabG (F H : Hp) (P : Addr) (q : Str) : Prop := F P = none ∧ ∃ ps : Array Value, H P = some (.tbl ps) ∧ TriplesOk ps.toList ∧ ∀ (pos : Pos) (cv : Value), codeAmong pos ps.toList = some cv → ∃ c, cv = .ref c ∧ H c = some (LamX.CodeO c q)
theorem TabG.step {F F' H H' : Hp} {P : Addr} {q : Str} (t : TabG F H P q) (hc : ∀ c, H c = some (LamX.CodeO c q) → H' c = some (LamX.CodeO c q)) (hn : F' P = none) (h : ∀ o, H P = some o → H' P = some o) : TabG F' H' P q := by
  obtain ⟨_, ps, h1, h2, h3⟩ := t
  refine ⟨hn, ps, h _ h1, h2, fun pos cv hc' => ?_⟩
  obtain ⟨c, e1, e2⟩ := h3 pos cv hc'
  exact ⟨c, e1, hc _ e2⟩
theorem TabG.at {F H : Hp} {P : Addr} {q : Str} (t : TabG F H P q) : ∃ ps, H P = some (.tbl ps) := let ⟨_, ps, h1, _⟩ := t; ⟨ps, h1⟩
/-- no tuple -/
def NotT : HO → Bool
  | .tbl _ => false
  | .tup _ => false
  | .frz _ (.tup _) => false
  | .ext _ => false
  | _ => true
theorem NotT.ne {o : HO} (h : NotT o = true) (xs : List V) : o ≠ .tup xs := by
  rintro rfl; cases h
/-- the owned cells stand in the heap -/
theorem OwnC.there {κ : Kx} {F H : Hp} {c : Ct} {a : Addr} (x : OwnC κ F H c a) : ∃ o, H a = some o ∧ NotT o = true := by
  cases c with
  | lst ds => obtain ⟨vs, h1, _⟩ := x; exact ⟨_, h1, rfl⟩
  | dk ks ds => obtain ⟨vs, h1, _⟩ := x; exact ⟨_, h1, rfl⟩
  | dt ks ds => obtain ⟨vs, h1, _⟩ := x; exact ⟨_, h1, rfl⟩
theorem OwnFs.there {κ : Kx} {F H : Hp} {fs : List Fd} {vs : List V} {S : List Addr} (x : OwnFs κ F H fs vs S) : ∀ b ∈ S, ∃ o, H b = some o ∧ NotT o = true := by
  induction x with
  | nil => intro b hb; simp at hb
  | cons x _ ih =>
    intro b hb
    rcases List.mem_append.mp hb with hb | hb
    · cases x with
      | sh _ => simp at hb
      | ct r =>
        rw [List.mem_singleton.mp hb]
        exact OwnC.there r
    · exact ih b hb
theorem Own.there {κ : Kx} {F H : Hp} {o : O} {v : V} {S : List Addr} (x : Own κ F H o v S) : ∀ b ∈ S, ∃ o, H b = some o ∧ NotT o = true := by
  cases x with
  | fd r =>
    cases r with
    | sh _ => intro b hb; simp at hb
    | ct r =>
      intro b hb
      rw [List.mem_singleton.mp hb]
      exact OwnC.there r
  | ob r m q =>
    intro b hb
    rcases List.mem_cons.mp hb with rfl | hb
    · exact ⟨_, r, rfl⟩
    · exact q.there b hb
  | dk r q =>
    intro b hb
    rcases List.mem_cons.mp hb with rfl | hb
    · exact ⟨_, r, rfl⟩
    · exact q.there b hb
/-- frozen: what was owned, as data -/
theorem OwnC.rep {κ : Kx} {F F' H : Hp} {c : Ct} {a : Addr} (x : OwnC κ F H c a) (e : Same F F') (h : F' a = H a) : Rep κ F' (.ref a) c.toD := by
  cases c with
  | lst ds => obtain ⟨vs, h1, h2⟩ := x; exact .lst (h.trans h1) (h2.mono e)
  | dk ks ds => obtain ⟨vs, h1, rfl, h2⟩ := x; exact .dk (h.trans h1) (h2.mono e)
  | dt ks ds => obtain ⟨vs, h1, rfl, h2⟩ := x; exact .dt (h.trans h1) (h2.mono e)
theorem OwnF.rep {κ : Kx} {F F' H : Hp} {f : Fd} {v : V} {S : List Addr} (x : OwnF κ F H f v S) (e : Same F F') (h : ∀ b ∈ S, F' b = H b) : Rep κ F' v f.toD := by
  cases x with
  | sh r => exact r.mono e
  | ct r => exact r.rep e (h _ (by simp))
theorem OwnFs.rep {κ : Kx} {F F' H : Hp} {fs : List Fd} {vs : List V} {S : List Addr} (x : OwnFs κ F H fs vs S) (e : Same F F') (h : ∀ b ∈ S, F' b = H b) : Reps κ F' vs (fs.map Fd.toD) := by
  induction x with
  | nil => exact .nil
  | cons x _ ih => exact .cons (x.rep e fun b hb => h b (List.mem_append_left _ hb)) (ih fun b hb => h b (List.mem_append_right _ hb))
theorem Own.rep {κ : Kx} {F F' H : Hp} {o : O} {v : V} {S : List Addr} (x : Own κ F H o v S) (e : Same F F') (h : ∀ b ∈ S, F' b = H b) : Rep κ F' v o.toD := by
  cases x with
  | fd r => exact r.rep e h
  | ob r m q => exact .ob ((h _ List.mem_cons_self).trans r) m (q.rep e fun b hb => h b (List.mem_cons_of_mem _ hb))
  | dk r q => exact .dk ((h _ List.mem_cons_self).trans r) (q.rep e fun b hb => h b (List.mem_cons_of_mem _ hb))
/-- to be read: over the whole heap -/
theorem Own.repH {κ : Kx} {F H : Hp} {o : O} {v : V} {S : List Addr} (x : Own κ F H o v S) (e : Same F H) : Rep κ H v o.toD := x.rep e fun _ _ => rfl

abbrev Env := List (Option O)
inductive Ix where
  | s (i : Nat) | t (k : Nat)
  deriving DecidableEq
def atO (ρ : Env) (τ : List O) : Ix → Option O
  | .s i => (ρ[i]?).join
  | .t k => τ[k]?
def atV (σ : L2.St) (υ : List V) : Ix → Option V
  | .s i => (σ[i]?).join
  | .t k => υ[k]?
abbrev Fp := Ix → List Addr
/-- the tables that stand -/
structure TabsG (κ : Kx) (F H : Hp) : Prop where
  at_ : ∀ p ∈ tabsOf κ.K, TabG F H p.1 p.2
  noF : ∀ b ps, F b ≠ some (.tbl ps)
structure G (κ : Kx) (A : Fp) (F H : Hp) (ρ : Env) (σ : L2.St) (τ : List O) (υ : List V) : Prop where
  len : ρ.length = σ.length
  lent : τ.length = υ.length
  own : ∀ x o, atO ρ τ x = some o → ∃ v, atV σ υ x = some v ∧ Own κ F H o v (A x)
  nd : ∀ x, (A x).Nodup
  dj : ∀ x y b, x ≠ y → b ∈ A x → b ∉ A y
  ff : ∀ x b, b ∈ A x → F b = none
  ft : ∀ x b, b ∈ A x → ∃ o, H b = some o ∧ NotT o = true
  fh : Same F H
  tab : TabsG κ F H
/-- nothing stands at b, or only a table -/
def Fresh (H : Hp) (b : Addr) : Prop := ∀ o, H b = some o → ∃ ps, o = .tbl ps
theorem Fresh.of {H : Hp} {b : Addr} (h : H b = none) : Fresh H b := fun o e => by rw [h] at e; cases e
theorem Fresh.not {H : Hp} {b : Addr} {o : HO} (h : ¬ Fresh H b) : ∃ o, H b = some o ∧ ∀ ps, o ≠ .tbl ps := by
  cases e : H b with
  | none => exact absurd (Fresh.of e) h
  | some o => exact ⟨o, rfl, fun ps z => h fun o' e' => by rw [e] at e'; cases e'; exact ⟨ps, z⟩⟩
theorem Fresh.hit {H : Hp} {b : Addr} {o : HO} (h : Fresh H b) (e : H b = some o) (n : ∀ ps, o ≠ .tbl ps) : False := let ⟨ps, z⟩ := h o e; n ps z
theorem Fresh.no {H : Hp} {b : Addr} {o : HO} (e : H b = some o) (n : NotT o = true) : ¬ Fresh H b := fun h => h.hit e fun ps z => by rw [z] at n; cases n
/-- what a step does to all that stands -/
structure Fr (A : Fp) (F H : Hp) (A' : Fp) (F' H' : Hp) : Prop where
  keep : ∀ b o, H b = some o → (∀ ps, o ≠ .tbl ps) → (∀ x, b ∉ A x) → H' b = some o
  there : ∀ b, Fresh H' b → Fresh H b
  new : ∀ x b, b ∈ A' x → (∃ y, b ∈ A y) ∨ Fresh H b
  grow : Same F F'
  fnew : ∀ b, F' b ≠ none → F b ≠ none ∨ Fresh H b ∨ ∃ y, b ∈ A y
theorem TabG.full {A : Fp} {F F' H H' : Hp} (keep : ∀ b o, H b = some o → (∀ x, b ∉ A x) → H' b = some o) (grow : Same F F') (fnew : ∀ b, F' b ≠ none → F b ≠ none ∨ H b = none ∨ ∃ y, b ∈ A y)
    (nt : ∀ x b, b ∈ A x → ∃ o, H b = some o ∧ NotT o = true) (P : Addr) (q : Str) (t : TabG F H P q) : TabG F' H' P q := by
  obtain ⟨ps, h1⟩ := t.at
  have nA : ∀ x, P ∉ A x := fun x hx => by
    obtain ⟨o, e, n⟩ := nt x P hx
    rw [h1] at e; cases e; cases n
  refine t.step (fun c e => keep c _ e fun x hx => by
    obtain ⟨o, e', n⟩ := nt x c hx
    rw [e] at e'; cases e'; cases n) ?_ fun o e => keep P o e nA
  cases e : F' P with
  | none => rfl
  | some u =>
    rcases fnew P (by rw [e]; simp) with z | z | ⟨y, z⟩
    · exact absurd t.1 z
    · rw [h1] at z; cases z
    · exact absurd z (nA y)
theorem Fr.mk' {A A' : Fp} {F F' H H' : Hp} (keep : ∀ b o, H b = some o → (∀ x, b ∉ A x) → H' b = some o) (there : ∀ b, H b ≠ none → H' b ≠ none) (hT : ∀ b ps, H' b = some (.tbl ps) → ∃ ps', H b = some (.tbl ps')) (new : ∀ x b, b ∈ A' x → (∃ y, b ∈ A y) ∨ H b = none) (grow : Same F F')
    (fnew : ∀ b, F' b ≠ none → F b ≠ none ∨ H b = none ∨ ∃ y, b ∈ A y) (nt : ∀ x b, b ∈ A x → ∃ o, H b = some o ∧ NotT o = true) : Fr A F H A' F' H' :=
  ⟨fun b o h _ n => keep b o h n, fun b h o e => by
    cases e' : H' b with
    | none => exact absurd e' (there b (by rw [e]; simp))
    | some o' =>
      obtain ⟨ps, rfl⟩ := h o' e'
      obtain ⟨ps', z⟩ := hT b ps e'
      rw [e] at z
      exact ⟨ps', Option.some.inj z⟩, fun x b h => (new x b h).imp id Fresh.of, grow, fun b h => (fnew b h).imp id fun z => z.imp Fresh.of id⟩
theorem Fr.refl {A : Fp} {F H : Hp} : Fr A F H A F H := ⟨fun _ _ h _ _ => h, fun _ h => h, fun x _ h => .inl ⟨x, h⟩, Same.refl _, fun _ h => .inl h⟩
theorem Fr.none {A A' : Fp} {F F' H H' : Hp} (x : Fr A F H A' F' H') {b : Addr} (h : Fresh H' b) : Fresh H b := x.there b h
theorem Fr.trans {A A' A'' : Fp} {F F' F'' H H' H'' : Hp} (x : Fr A F H A' F' H') (y : Fr A' F' H' A'' F'' H'') : Fr A F H A'' F'' H'' where
  keep := fun b o h t n => y.keep b o (x.keep b o h t n) t fun z hz => by
    rcases x.new z b hz with ⟨w, hw⟩ | e
    · exact n w hw
    · exact e.hit h t
  there := fun b h => x.there b (y.there b h)
  new := fun z b h => by
    rcases y.new z b h with ⟨w, hw⟩ | e
    · exact x.new w b hw
    · exact .inr (x.none e)
  grow := x.grow.trans y.grow
  fnew := fun b h => by
    rcases y.fnew b h with e | e | ⟨w, hw⟩
    · exact x.fnew b e
    · exact .inr (.inl (x.none e))
    · rcases x.new w b hw with e | e
      · exact .inr (.inr e)
      · exact .inr (.inl e)
theorem tbl_upd {H : Hp} {p : Addr} {o : HO} (n : ∀ ps, o ≠ .tbl ps) : ∀ b ps, upd H p o b = some (.tbl ps) → ∃ ps', H b = some (.tbl ps') := fun b ps e => by
  by_cases z : b = p
  · rw [z, upd_same] at e
    exact absurd (Option.some.inj e) (n ps)
  · rw [upd_ne z] at e
    exact ⟨ps, e⟩
theorem NotT.nt {o : HO} (h : NotT o = true) : ∀ ps, o ≠ .tbl ps := fun ps z => by rw [z] at h; cases h
section
variable {κ : Kx} {A : Fp} {F H : Hp} {ρ : Env} {σ : L2.St} {τ : List O} {υ : List V}
theorem G.notinF (g : G κ A F H ρ σ τ υ) {b : Addr} (h : Fresh H b) (x : Ix) : b ∉ A x := fun hb => by
  obtain ⟨o, e, n⟩ := g.ft x b hb
  exact h.hit e fun ps z => by rw [z] at n; cases n
theorem G.notin (g : G κ A F H ρ σ τ υ) {b : Addr} (h : H b = none) (x : Ix) : b ∉ A x := g.notinF (Fresh.of h) x
/-- the tables stand on -/
theorem G.tabs (g : G κ A F H ρ σ τ υ) {F' H' : Hp} (eF : Same F F') (hF : ∀ b, F' b ≠ none → F b ≠ none ∨ H b = none ∨ ∃ y, b ∈ A y) (hH : ∀ b o, H b = some o → (∀ x, b ∉ A x) → H' b = some o) (fH : ∀ b u, F' b = some u → H b = some u ∨ ∀ ps, u ≠ .tbl ps) : TabsG κ F' H' :=
  ⟨fun p hp => TabG.full hH eF hF g.ft _ _ (g.tab.at_ p hp), fun b ps e => by
    rcases fH b _ e with h | h
    · rcases hF b (by rw [e]; simp) with z | z | ⟨y, z⟩
      · cases q : F b with
        | none => exact z q
        | some u =>
          have := eF b u q
          rw [e] at this; cases this
          exact g.tab.noF b ps q
      · rw [h] at z; cases z
      · obtain ⟨o, e', n⟩ := g.ft y b z
        rw [h] at e'; cases e'; cases n
    · exact h ps rfl⟩
/-- the heap grows by p, tracked as o, shared -/
theorem G.share (g : G κ A F H ρ σ τ υ) {p : Addr} (o : HO) (h : H p = none) (n : ∀ ps, o ≠ .tbl ps := by intro ps z; cases z) : G κ A (upd F p o) (upd H p o) ρ σ τ υ ∧ Fr A F H A (upd F p o) (upd H p o) := by
  have hF : F p = none := by
    cases e : F p with
    | none => rfl
    | some u => rw [g.fh _ _ e] at h; cases h
  have eF : Same F (upd F p o) := fun b u e => by rw [upd_ne (ne_of_none e hF)]; exact e
  have eH : Same H (upd H p o) := fun b u e => by rw [upd_ne (ne_of_none e h)]; exact e
  have hN : ∀ b, upd F p o b ≠ none → F b ≠ none ∨ H b = none ∨ ∃ y, b ∈ A y := fun b e => by
    by_cases z : b = p
    · subst z; exact .inr (.inl h)
    · rw [upd_ne z] at e; exact .inl e
  refine ⟨⟨g.len, g.lent, fun x u e => ?_, g.nd, g.dj, fun x b hb => ?_, fun x b hb => ?_, fun b u e => ?_, g.tabs eF hN (fun b u e _ => eH b u e) fun b u e => by
    by_cases z : b = p
    · rw [z, upd_same] at e; cases e; exact .inr n
    · rw [upd_ne z] at e; exact .inl (g.fh b u e)⟩, Fr.mk' (fun b u e _ => eH b u e) (fun b e => ?_) (tbl_upd n) (fun x _ hb => .inl ⟨x, hb⟩) eF hN g.ft⟩
  · obtain ⟨v, h1, h2⟩ := g.own x u e
    exact ⟨v, h1, h2.mono eF fun b _ o e => eH b o e⟩
  · have : b ≠ p := fun z => g.notin h x (z ▸ hb)
    rw [upd_ne this]; exact g.ff x b hb
  · obtain ⟨u, e, n⟩ := g.ft x b hb
    exact ⟨u, eH b u e, n⟩
  · by_cases z : b = p
    · subst z; rw [upd_same] at e ⊢; exact e
    · rw [upd_ne z] at e ⊢; exact g.fh b u e
  · cases q : H b with
    | none => exact absurd q e
    | some u => rw [eH b u q]; simp
end
end DL

end

section
set_option Elab.async false
set_option linter.all false
set_option maxRecDepth 100000
namespace DL
open PySem L2

section
variable {κ : Kx} {A A' : Fp} {F F' H H' : Hp} {ρ ρ' : Env} {σ σ' : L2.St} {τ τ' : List O} {υ υ' : List V}

/-- a step that keeps all cells, and whose owned cells are among the old ones -/
theorem Fr.sub (h : ∀ x b, b ∈ A' x → ∃ y, b ∈ A y) : Fr A F H A' F H := ⟨fun _ _ e _ _ => e, fun _ e => e, fun x b hb => .inl (h x b hb), Same.refl _, fun _ e => .inl e⟩

/-- the owned things stand at other places -/
theorem G.re (g : G κ A F H ρ σ τ υ) (f : Ix → Option Ix) (len : ρ'.length = σ'.length) (lent : τ'.length = υ'.length)
    (hA : ∀ x, A' x = match f x with | some y => A y | none => []) (inj : ∀ x x' y, f x = some y → f x' = some y → x = x')
    (own : ∀ x o, atO ρ' τ' x = some o → ∃ y, f x = some y ∧ atO ρ τ y = some o ∧ atV σ' υ' x = atV σ υ y) : G κ A' F H ρ' σ' τ' υ' ∧ Fr A F H A' F H := by
  have sub : ∀ x b, b ∈ A' x → ∃ y, f x = some y ∧ b ∈ A y := fun x b hb => by
    rw [hA] at hb
    cases e : f x with
    | none => rw [e] at hb; simp at hb
    | some y => rw [e] at hb; exact ⟨y, rfl, hb⟩
  refine ⟨⟨len, lent, fun x o e => ?_, fun x => ?_, fun x y b n hx hy => ?_, fun x b hb => ?_, fun x b hb => ?_, g.fh, g.tab⟩, Fr.sub fun x b hb => let ⟨y, _, h⟩ := sub x b hb; ⟨y, h⟩⟩
  · obtain ⟨y, h1, h2, h3⟩ := own x o e
    obtain ⟨v, h4, h5⟩ := g.own y o h2
    refine ⟨v, h3.trans h4, ?_⟩
    rw [hA, h1]
    exact h5
  · rw [hA]
    cases f x with
    | none => exact List.nodup_nil
    | some y => exact g.nd y
  · obtain ⟨x', ex, hx⟩ := sub x b hx
    obtain ⟨y', ey, hy⟩ := sub y b hy
    refine g.dj x' y' b (fun z => ?_) hx hy
    subst z
    exact n (inj x y x' ex ey)
  · obtain ⟨y, _, h⟩ := sub x b hb
    exact g.ff y b h
  · obtain ⟨y, _, h⟩ := sub x b hb
    exact g.ft y b h

theorem atO_top {r : O} : atO ρ (τ ++ [r]) (.t τ.length) = some r := by simp [atO]
theorem atO_app {r : O} {x : Ix} (h : x ≠ .t τ.length) : atO ρ (τ ++ [r]) x = atO ρ τ x := by
  cases x with
  | s i => rfl
  | t k =>
    have hk : k ≠ τ.length := fun z => h (by rw [z])
    show (τ ++ [r])[k]? = τ[k]?
    rcases Nat.lt_or_gt_of_ne hk with q | q
    · rw [List.getElem?_append_left q]
    · rw [List.getElem?_eq_none (by simp; omega), List.getElem?_eq_none (by omega)]
theorem atV_app {v : V} {x : Ix} (h : x ≠ .t υ.length) : atV σ (υ ++ [v]) x = atV σ υ x := by
  cases x with
  | s i => rfl
  | t k =>
    have hk : k ≠ υ.length := fun z => h (by rw [z])
    show (υ ++ [v])[k]? = υ[k]?
    rcases Nat.lt_or_gt_of_ne hk with q | q
    · rw [List.getElem?_append_left q]
    · rw [List.getElem?_eq_none (by simp; omega), List.getElem?_eq_none (by omega)]
theorem atV_top {v : V} : atV σ (υ ++ [v]) (.t υ.length) = some v := by simp [atV]
def upA (A : Fp) (x : Ix) (S : List Addr) : Fp := fun y => if y = x then S else A y
theorem upA_same {x : Ix} {S : List Addr} : upA A x S x = S := if_pos rfl
theorem upA_ne {x y : Ix} {S : List Addr} (h : y ≠ x) : upA A x S y = A y := if_neg h

/-- a shared value on the stack -/
theorem G.pushSh (g : G κ A F H ρ σ τ υ) {v : V} {d : D} (r : Rep κ F v d) : G κ (upA A (.t τ.length) []) F H ρ σ (τ ++ [.sh d]) (υ ++ [v]) ∧ Fr A F H (upA A (.t τ.length) []) F H := by
  have sub : ∀ x b, b ∈ upA A (.t τ.length) [] x → b ∈ A x ∧ x ≠ .t τ.length := fun x b hb => by
    by_cases e : x = .t τ.length
    · subst e; rw [upA_same] at hb; simp at hb
    · rw [upA_ne e] at hb; exact ⟨hb, e⟩
  refine ⟨⟨g.len, by simp [g.lent], fun x o e => ?_, fun x => ?_, fun x y b n hx hy => g.dj x y b n (sub x b hx).1 (sub y b hy).1, fun x b hb => g.ff x b (sub x b hb).1, fun x b hb => g.ft x b (sub x b hb).1, g.fh, g.tab⟩, Fr.sub fun x b hb => ⟨x, (sub x b hb).1⟩⟩
  · by_cases z : x = .t τ.length
    · subst z
      rw [atO_top] at e; cases e
      rw [g.lent]
      refine ⟨v, atV_top, ?_⟩
      rw [upA, if_pos rfl]
      exact .fd (.sh r)
    · rw [atO_app z] at e
      obtain ⟨u, h1, h2⟩ := g.own x o e
      refine ⟨u, ?_, by rw [upA_ne z]; exact h2⟩
      rw [atV_app (by rw [← g.lent]; exact z)]
      exact h1
  · by_cases z : x = .t τ.length
    · subst z; rw [upA_same]; exact List.nodup_nil
    · rw [upA_ne z]; exact g.nd x
/-- a new owned thing on the stack -/
theorem G.pushNew (g : G κ A F H ρ σ τ υ) {p : Addr} {o : HO} {r : O} (h : H p = none) (hn : NotT o = true) (w : Own κ F (upd H p o) r (.ref p) [p]) :
    G κ (upA A (.t τ.length) [p]) F (upd H p o) ρ σ (τ ++ [r]) (υ ++ [.ref p]) ∧ Fr A F H (upA A (.t τ.length) [p]) F (upd H p o) := by
  have hF : F p = none := by
    cases e : F p with
    | none => rfl
    | some u => rw [g.fh _ _ e] at h; cases h
  have eH : Same H (upd H p o) := fun b u e => by rw [upd_ne (ne_of_none e h)]; exact e
  have sub : ∀ x b, b ∈ upA A (.t τ.length) [p] x → (x = .t τ.length ∧ b = p) ∨ (b ∈ A x ∧ x ≠ .t τ.length ∧ b ≠ p) := fun x b hb => by
    by_cases e : x = .t τ.length
    · subst e; rw [upA_same] at hb; exact .inl ⟨rfl, List.mem_singleton.mp hb⟩
    · rw [upA_ne e] at hb; exact .inr ⟨hb, e, fun z => g.notin h x (z ▸ hb)⟩
  refine ⟨⟨g.len, by simp [g.lent], fun x u e => ?_, fun x => ?_, fun x y b n hx hy => ?_, fun x b hb => ?_, fun x b hb => ?_, fun b u e => eH b u (g.fh b u e), g.tabs (Same.refl _) (fun b e => .inl e) (fun b u e _ => eH b u e) fun b u e => .inl (g.fh b u e)⟩,
    Fr.mk' (fun b u e _ => eH b u e) (fun b e => ?_) (tbl_upd (NotT.nt hn)) (fun x b hb => ?_) (Same.refl _) (fun b e => .inl e) g.ft⟩
  · by_cases z : x = .t τ.length
    · subst z
      rw [atO_top] at e; cases e
      rw [g.lent]
      refine ⟨.ref p, atV_top, ?_⟩
      rw [upA, if_pos rfl]
      exact w
    · rw [atO_app z] at e
      obtain ⟨v, h1, h2⟩ := g.own x u e
      refine ⟨v, ?_, by rw [upA_ne z]; exact h2.mono (Same.refl _) fun b _ o e => eH b o e⟩
      rw [atV_app (by rw [← g.lent]; exact z)]
      exact h1
  · by_cases z : x = .t τ.length
    · subst z; rw [upA_same]; simp
    · rw [upA_ne z]; exact g.nd x
  · rcases sub x b hx with ⟨h1, h2⟩ | ⟨h1, h2, h3⟩
    · rcases sub y b hy with ⟨h4, _⟩ | ⟨_, _, h4⟩
      · exact n (h1.trans h4.symm)
      · exact h4 h2
    · rcases sub y b hy with ⟨_, h4⟩ | ⟨h4, _, _⟩
      · exact h3 h4
      · exact g.dj x y b n h1 h4
  · rcases sub x b hb with ⟨_, rfl⟩ | ⟨h1, _, _⟩
    · exact hF
    · exact g.ff x b h1
  · rcases sub x b hb with ⟨_, rfl⟩ | ⟨h1, _, _⟩
    · exact ⟨o, upd_same, hn⟩
    · obtain ⟨u, e, q⟩ := g.ft x b h1
      exact ⟨u, eH b u e, q⟩
  · cases q : H b with
    | none => exact absurd q e
    | some u => rw [eH b u q]; simp
  · rcases sub x b hb with ⟨_, rfl⟩ | ⟨h1, _, _⟩
    · exact .inr h
    · exact .inl ⟨x, h1⟩
/-- the top of the stack, laid aside -/
theorem G.pop {r : O} {v : V} (g : G κ A F H ρ σ (τ ++ [r]) (υ ++ [v])) : G κ (upA A (.t τ.length) []) F H ρ σ τ υ ∧ Own κ F H r v (A (.t τ.length)) ∧ Fr A F H (upA A (.t τ.length) []) F H := by
  have hl : τ.length = υ.length := by have := g.lent; simp at this; exact this
  have h := g.re (A' := upA A (.t τ.length) []) (ρ' := ρ) (σ' := σ) (τ' := τ) (υ' := υ) (fun x => if x = .t τ.length then none else some x) g.len hl (fun x => by
      by_cases z : x = .t τ.length
      · simp [upA, z]
      · simp [upA, z]) (fun x x' y h1 h2 => by
      split at h1
      · cases h1
      · split at h2
        · cases h2
        · cases h1; cases h2; rfl) (fun x o e => by
      have z : x ≠ .t τ.length := fun z => by subst z; simp [atO] at e
      refine ⟨x, if_neg z, (atO_app z).trans e, ?_⟩
      rw [atV_app (by rw [← hl]; exact z)])
  refine ⟨h.1, ?_, h.2⟩
  obtain ⟨u, h1, h2⟩ := g.own (.t τ.length) r atO_top
  rw [hl, atV_top] at h1
  cases h1
  exact h2
/-- the top of the stack, stored -/
theorem G.assign {r : O} {v : V} {i : Nat} (g : G κ A F H ρ σ (τ ++ [r]) (υ ++ [v])) : 
    G κ (upA (upA A (.s i) (A (.t τ.length))) (.t τ.length) []) F H (ρ.set i (some r)) (σ.set i (some v)) τ υ ∧ Fr A F H (upA (upA A (.s i) (A (.t τ.length))) (.t τ.length) []) F H := by
  have hl : τ.length = υ.length := by have := g.lent; simp at this; exact this
  refine g.re (fun x => if x = .t τ.length then none else if x = .s i then some (.t τ.length) else some x) (by simp [g.len]) hl (fun x => ?_) (fun x x' y h1 h2 => ?_) (fun x o e => ?_)
  · by_cases z : x = .t τ.length
    · simp [upA, z]
    · by_cases w : x = .s i
      · simp [upA, w]
      · simp [upA, z, w]
  · by_cases a : x = .t τ.length
    · rw [if_pos a] at h1; cases h1
    · rw [if_neg a] at h1
      by_cases a' : x' = .t τ.length
      · rw [if_pos a'] at h2; cases h2
      · rw [if_neg a'] at h2
        by_cases b : x = .s i
        · rw [if_pos b] at h1; cases h1
          by_cases b' : x' = .s i
          · rw [b, b']
          · rw [if_neg b'] at h2; cases h2; exact absurd rfl a'
        · rw [if_neg b] at h1; cases h1
          by_cases b' : x' = .s i
          · rw [if_pos b'] at h2; cases h2; exact absurd rfl a
          · rw [if_neg b'] at h2; cases h2; rfl
  · have z : x ≠ .t τ.length := fun z => by subst z; simp [atO] at e
    by_cases w : x = .s i
    · subst w
      have hi : i < ρ.length := by
        rcases Nat.lt_or_ge i ρ.length with q | q
        · exact q
        · simp [atO, List.getElem?_eq_none (show (ρ.set i (some r)).length ≤ i by simpa using q)] at e
      have hi' : i < σ.length := g.len ▸ hi
      refine ⟨.t τ.length, by rw [if_neg z, if_pos rfl], ?_, ?_⟩
      · simp [atO, hi] at e
        subst e
        exact atO_top
      · rw [hl, atV_top]
        simp [atV, hi']
    · refine ⟨x, by rw [if_neg z, if_neg w], ?_, ?_⟩
      · rw [atO_app z]
        cases x with
        | t k => exact e
        | s j =>
          have hj : j ≠ i := fun q => w (by rw [q])
          simp only [atO] at e ⊢
          rw [List.getElem?_set_ne (Ne.symm hj)] at e
          exact e
      · rw [atV_app (by rw [← hl]; exact z)]
        cases x with
        | t k => rfl
        | s j =>
          have hj : j ≠ i := fun q => w (by rw [q])
          simp only [atV]
          rw [List.getElem?_set_ne (Ne.symm hj)]
/-- a slot's thing moved onto the stack -/
theorem G.move {o : O} {v : V} {i : Nat} (g : G κ A F H ρ σ τ υ) (h : ρ[i]? = some (some o)) (hv : σ[i]? = some (some v)) :
    G κ (upA (upA A (.t τ.length) (A (.s i))) (.s i) []) F H (ρ.set i none) σ (τ ++ [o]) (υ ++ [v]) ∧ Fr A F H (upA (upA A (.t τ.length) (A (.s i))) (.s i) []) F H := by
  refine g.re (fun x => if x = .s i then none else if x = .t τ.length then some (.s i) else some x) (by simp [g.len]) (by simp [g.lent]) (fun x => ?_) (fun x x' y h1 h2 => ?_) (fun x u e => ?_)
  · by_cases z : x = .s i
    · simp [upA, z]
    · by_cases w : x = .t τ.length
      · simp [upA, w]
      · simp [upA, z, w]
  · by_cases a : x = .s i
    · rw [if_pos a] at h1; cases h1
    · rw [if_neg a] at h1
      by_cases a' : x' = .s i
      · rw [if_pos a'] at h2; cases h2
      · rw [if_neg a'] at h2
        by_cases b : x = .t τ.length
        · rw [if_pos b] at h1; cases h1
          by_cases b' : x' = .t τ.length
          · rw [b, b']
          · rw [if_neg b'] at h2; cases h2; exact absurd rfl a'
        · rw [if_neg b] at h1; cases h1
          by_cases b' : x' = .t τ.length
          · rw [if_pos b'] at h2; cases h2; exact absurd rfl a
          · rw [if_neg b'] at h2; cases h2; rfl
  · by_cases z : x = .s i
    · subst z
      simp only [atO] at e
      rcases Nat.lt_or_ge i ρ.length with q | q
      · rw [List.getElem?_set_self q] at e; cases e
      · rw [List.getElem?_eq_none (by simpa using q)] at e; cases e
    · by_cases w : x = .t τ.length
      · subst w
        rw [atO_top] at e; cases e
        refine ⟨.s i, by rw [if_neg z, if_pos rfl], by simp [atO, h], ?_⟩
        rw [g.lent, atV_top]
        simp [atV, hv]
      · rw [atO_app w] at e
        refine ⟨x, by rw [if_neg z, if_neg w], ?_, by rw [atV_app (by rw [← g.lent]; exact w)]⟩
        cases x with
        | t k => exact e
        | s j =>
          have hj : j ≠ i := fun q => z (by rw [q])
          simp only [atO] at e ⊢
          rw [List.getElem?_set_ne (Ne.symm hj)] at e
          exact e
/-- what a slot owns is frozen: from then on it is shared data -/
theorem G.freeze {o : O} {i : Nat} (g : G κ A F H ρ σ τ υ) (h : ρ[i]? = some (some o)) :
    ∃ F', G κ (upA A (.s i) []) F' H (ρ.set i (some (.sh o.toD))) σ τ υ ∧ Fr A F H (upA A (.s i) []) F' H ∧ ∃ v, σ[i]? = some (some v) ∧ Rep κ F' v o.toD := by
  obtain ⟨v, h1, h2⟩ := g.own (.s i) o (by simp [atO, h])
  have hv : σ[i]? = some (some v) := by
    cases e : σ[i]? with
    | none => simp [atV, e] at h1
    | some u => simp [atV, e] at h1; rw [h1]
  let F' : Hp := fun b => if b ∈ A (.s i) then H b else F b
  have eF : Same F F' := fun b u e => by
    show (if b ∈ A (.s i) then H b else F b) = some u
    by_cases z : b ∈ A (.s i)
    · rw [g.ff _ b z] at e; cases e
    · rw [if_neg z]; exact e
  have rep : Rep κ F' v o.toD := h2.rep eF fun b hb => if_pos hb
  have sub : ∀ x b, b ∈ upA A (.s i) [] x → b ∈ A x ∧ x ≠ .s i := fun x b hb => by
    by_cases e : x = .s i
    · subst e; rw [upA_same] at hb; simp at hb
    · rw [upA_ne e] at hb; exact ⟨hb, e⟩
  have hN : ∀ b, F' b ≠ none → F b ≠ none ∨ H b = none ∨ ∃ y, b ∈ A y := fun b e => by
    have e : (if b ∈ A (.s i) then H b else F b) ≠ none := e
    by_cases z : b ∈ A (.s i)
    · exact .inr (.inr ⟨_, z⟩)
    · rw [if_neg z] at e; exact .inl e
  refine ⟨F', ⟨by simp [g.len], g.lent, fun x u e => ?_, fun x => ?_, fun x y b n hx hy => g.dj x y b n (sub x b hx).1 (sub y b hy).1, fun x b hb => ?_, fun x b hb => g.ft x b (sub x b hb).1, fun b u e => ?_, g.tabs eF hN (fun _ _ e _ => e) fun b u e => by
    have e : (if b ∈ A (.s i) then H b else F b) = some u := e
    split at e
    · exact .inl e
    · exact .inl (g.fh b u e)⟩,
    Fr.mk' (fun _ _ e _ => e) (fun _ e => e) (fun _ _ e => ⟨_, e⟩) (fun x b hb => .inl ⟨x, (sub x b hb).1⟩) eF hN g.ft, v, hv, rep⟩
  · by_cases z : x = .s i
    · subst z
      have hi : i < ρ.length := by
        rcases Nat.lt_or_ge i ρ.length with q | q
        · exact q
        · rw [List.getElem?_eq_none q] at h; cases h
      simp [atO, hi] at e
      subst e
      refine ⟨v, h1, ?_⟩
      rw [upA_same]
      exact .fd (.sh rep)
    · have e' : atO ρ τ x = some u := by
        cases x with
        | t k => exact e
        | s j =>
          have hj : j ≠ i := fun q => z (by rw [q])
          simp only [atO] at e ⊢
          rw [List.getElem?_set_ne (Ne.symm hj)] at e
          exact e
      obtain ⟨w, h3, h4⟩ := g.own x u e'
      exact ⟨w, h3, by rw [upA_ne z]; exact h4.mono eF fun _ _ _ q => q⟩
  · by_cases z : x = .s i
    · subst z; rw [upA_same]; exact List.nodup_nil
    · rw [upA_ne z]; exact g.nd x
  · show (if b ∈ A (.s i) then H b else F b) = none
    rw [if_neg (g.dj x (.s i) b (sub x b hb).2 (sub x b hb).1)]
    exact g.ff x b (sub x b hb).1
  · have e : (if b ∈ A (.s i) then H b else F b) = some u := e
    split at e
    · exact e
    · exact g.fh b u e
/-- the top of the stack is frozen -/
theorem G.freezeT {o : O} {v : V} (g : G κ A F H ρ σ (τ ++ [o]) (υ ++ [v])) :
    ∃ F', G κ (upA A (.t τ.length) []) F' H ρ σ (τ ++ [.sh o.toD]) (υ ++ [v]) ∧ Fr A F H (upA A (.t τ.length) []) F' H ∧ Rep κ F' v o.toD := by
  obtain ⟨g1, w, f1⟩ := g.pop
  let B := A (.t τ.length)
  let F' : Hp := fun b => if b ∈ B then H b else F b
  have eF : Same F F' := fun b u e => by
    show (if b ∈ B then H b else F b) = some u
    by_cases z : b ∈ B
    · rw [g.ff _ b z] at e; cases e
    · rw [if_neg z]; exact e
  have rep : Rep κ F' v o.toD := w.rep eF fun b hb => if_pos hb
  have sub : ∀ x b, b ∈ upA A (.t τ.length) [] x → b ∈ A x ∧ x ≠ .t τ.length := fun x b hb => by
    by_cases e : x = .t τ.length
    · subst e; rw [upA_same] at hb; simp at hb
    · rw [upA_ne e] at hb; exact ⟨hb, e⟩
  have hN : ∀ b, F' b ≠ none → F b ≠ none ∨ H b = none ∨ ∃ y, b ∈ A y := fun b e => by
    have e : (if b ∈ B then H b else F b) ≠ none := e
    by_cases z : b ∈ B
    · exact .inr (.inr ⟨_, z⟩)
    · rw [if_neg z] at e; exact .inl e
  have g2 : G κ (upA A (.t τ.length) []) F' H ρ σ τ υ := ⟨g1.len, g1.lent, fun x u e => let ⟨w, h3, h4⟩ := g1.own x u e; ⟨w, h3, h4.mono eF fun _ _ _ q => q⟩, g1.nd, g1.dj, fun x b hb => by
      show (if b ∈ B then H b else F b) = none
      rw [if_neg (g.dj x (.t τ.length) b (sub x b hb).2 (sub x b hb).1)]
      exact g.ff x b (sub x b hb).1, g1.ft, fun b u e => by
      have e : (if b ∈ B then H b else F b) = some u := e
      split at e
      · exact e
      · exact g.fh b u e, g.tabs eF hN (fun _ _ e _ => e) fun b u e => by
      have e : (if b ∈ B then H b else F b) = some u := e
      split at e
      · exact .inl e
      · exact .inl (g.fh b u e)⟩
  have f2 : Fr A F H (upA A (.t τ.length) []) F' H := Fr.mk' (fun _ _ e _ => e) (fun _ e => e) (fun _ _ e => ⟨_, e⟩) (fun x b hb => .inl ⟨x, (sub x b hb).1⟩) eF hN g.ft
  have g3 := g2.pushSh rep
  refine ⟨F', ?_, ?_, rep⟩
  · have : upA (upA A (.t τ.length) []) (.t τ.length) [] = upA A (.t τ.length) [] := by
      funext x; unfold upA; split <;> rfl
    rw [this] at g3
    exact g3.1
  · exact f2
/-- what is known of some slots is dropped -/
theorem G.drop (g : G κ A F H ρ σ τ υ) (len : ρ'.length = ρ.length) (h : ∀ (i : Nat) (o : O), ρ'[i]? = some (some o) → ρ[i]? = some (some o)) : G κ A F H ρ' σ τ υ :=
  ⟨len.trans g.len, g.lent, fun x o e => by
    refine g.own x o ?_
    cases x with
    | t k => exact e
    | s i =>
      simp only [atO] at e ⊢
      have := h i o (by cases q : ρ'[i]? with
        | none => rw [q] at e; cases e
        | some z => rw [q] at e; simp at e; rw [e])
      rw [this]; rfl, g.nd, g.dj, g.ff, g.ft, g.fh, g.tab⟩
end

inductive Out (α : Type) where
  | bad | ok (a : α) (ρ : Env) | exc (e : D) (ρ : Env)
abbrev M (α : Type) := Env → Out α
def mBind {α β : Type} (m : M α) (k : α → M β) : M β := fun ρ => match m ρ with
  | .bad => .bad
  | .ok a ρ' => k a ρ'
  | .exc e ρ' => .exc e ρ'
def mPure {α : Type} (a : α) : M α := fun ρ => .ok a ρ
inductive OutS where
  | bad | next (ρ : Env) | ret (r : O) (ρ : Env) | brk (ρ : Env) | cont (ρ : Env) | exc (e : D) (ρ : Env)
abbrev MS := Env → OutS

/-- what a raised exception is worth: its class by name, its own fields -/
def ExRep (κ : Kx) (F H : Hp) (cls : Value) (d : Option Addr) : D → Prop
  | .ob c ns vs => ∃ C, cls = .ref C ∧ κ.mg c = some (.ref C) ∧ ∃ dd fs, d = some dd ∧ F dd = some (.xd fs) ∧ fs.map (·.1) = ns ∧ Reps κ F (fs.map (·.2)) vs
  | _ => False
abbrev kx (X : Cx) : Kx := ⟨X.K, X.mg⟩
abbrev WX' := Value → Option Addr → L2.St → Hp → Prop

def isSh : O → Bool
  | .fd (.sh _) => true
  | _ => false
/-- the slot owns what it holds -/
def Ow (ρ : Env) (i : Nat) : Prop := ∃ o, ρ[i]? = some (some o) ∧ isSh o = false
/-- a step; p: it changes nothing that stood -/
structure Stp (p : Bool) (ρ : Env) (A : Fp) (F H : Hp) (ρ' : Env) (A' : Fp) (F' H' : Hp) : Prop where
  fr : Fr A F H A' F' H'
  pu : p = true → Same H H' ∧ ∀ i, Ow ρ i → Ow ρ' i ∧ ∀ b ∈ A (.s i), b ∈ A' (.s i)
theorem Stp.refl {p : Bool} {ρ : Env} {A : Fp} {F H : Hp} : Stp p ρ A F H ρ A F H := ⟨Fr.refl, fun _ => ⟨Same.refl _, fun _ q => ⟨q, fun _ h => h⟩⟩⟩
theorem Stp.trans {p q : Bool} {ρ ρ' ρ'' : Env} {A A' A'' : Fp} {F F' F'' H H' H'' : Hp} (x : Stp p ρ A F H ρ' A' F' H') (y : Stp q ρ' A' F' H' ρ'' A'' F'' H'') : Stp (p && q) ρ A F H ρ'' A'' F'' H'' :=
  ⟨x.fr.trans y.fr, fun h => by
    obtain ⟨h1, h2⟩ := Bool.and_eq_true_iff.mp h
    refine ⟨(x.pu h1).1.trans (y.pu h2).1, fun i w => ?_⟩
    obtain ⟨w1, s1⟩ := (x.pu h1).2 i w
    obtain ⟨w2, s2⟩ := (y.pu h2).2 i w1
    exact ⟨w2, fun b hb => s2 b (s1 b hb)⟩⟩
theorem Stp.any {p : Bool} {ρ ρ' : Env} {A A' : Fp} {F F' H H' : Hp} (x : Stp true ρ A F H ρ' A' F' H') : Stp p ρ A F H ρ' A' F' H' := ⟨x.fr, fun _ => x.pu rfl⟩
theorem Stp.no {ρ ρ' : Env} {A A' : Fp} {F F' H H' : Hp} (x : Fr A F H A' F' H') : Stp false ρ A F H ρ' A' F' H' := ⟨x, nofun⟩
theorem Stp.imp {p q : Bool} {ρ ρ' : Env} {A A' : Fp} {F F' H H' : Hp} (x : Stp p ρ A F H ρ' A' F' H') (h : q = true → p = true) : Stp q ρ A F H ρ' A' F' H' := ⟨x.fr, fun e => x.pu (h e)⟩
/-- a further step upon the same slots -/
theorem Stp.then {p : Bool} {ρ ρ' : Env} {A A' A'' : Fp} {F F' F'' H H' H'' : Hp} (x : Stp p ρ A F H ρ' A' F' H') (f : Fr A' F' H' A'' F'' H'') (h : Same H' H'') (hA : ∀ i, A'' (.s i) = A' (.s i)) : Stp p ρ A F H ρ' A'' F'' H'' :=
  ⟨x.fr.trans f, fun z => ⟨(x.pu z).1.trans h, fun i q => ⟨((x.pu z).2 i q).1, fun b hb => by rw [hA]; exact ((x.pu z).2 i q).2 b hb⟩⟩⟩
/-- what may come out by an exception -/
def XX (κ : Kx) (W : WX') (A : Fp) (F H : Hp) (σ : L2.St) (τ : List O) (υ : List V) (e : D) (ρ' : Env) : Prop :=
  ∀ cls d A' F' H', Fr A F H A' F' H' → G κ A' F' H' ρ' σ τ υ → ExRep κ F' H' cls d e → W cls d σ H'
theorem XX.step {κ : Kx} {W : WX'} {A A1 : Fp} {F F1 H H1 : Hp} {σ : L2.St} {τ : List O} {υ : List V} {e : D} {ρ' : Env} (x : XX κ W A F H σ τ υ e ρ') (f : Fr A F H A1 F1 H1) : XX κ W A1 F1 H1 σ τ υ e ρ' :=
  fun cls d A2 F2 H2 f2 g q => x cls d A2 F2 H2 (f.trans f2) g q

/-- what is wanted of a denotation's end -/
def Wp (κ : Kx) (W : WX') (A : Fp) (F H : Hp) (σ : L2.St) (τ : List O) (υ : List V) {α : Type} (out : Out α) (q : α → Env → Prop) : Prop := match out with
  | .bad => False
  | .ok a ρ' => q a ρ'
  | .exc e ρ' => XX κ W A F H σ τ υ e ρ'
section
variable {κ : Kx} {W : WX'} {A A1 : Fp} {F F1 H H1 : Hp} {σ : L2.St} {τ : List O} {υ : List V} {α β : Type} {q q' : α → Env → Prop}
theorem Wp.imp {out : Out α} (h : Wp κ W A F H σ τ υ out q) (i : ∀ a ρ', q a ρ' → q' a ρ') : Wp κ W A F H σ τ υ out q' := by
  cases out with
  | bad => exact h
  | ok a ρ' => exact i a ρ' h
  | exc e ρ' => exact h
theorem Wp.step {out : Out α} (h : Wp κ W A F H σ τ υ out q) (f : Fr A F H A1 F1 H1) : Wp κ W A1 F1 H1 σ τ υ out q := by
  cases out with
  | bad => exact h
  | ok a ρ' => exact h
  | exc e ρ' => exact XX.step h f
theorem Wp.bind {m : M α} {k : α → M β} {ρ : Env} {q : β → Env → Prop} (h : Wp κ W A F H σ τ υ (mBind m k ρ) q) : Wp κ W A F H σ τ υ (m ρ) fun a ρ1 => Wp κ W A F H σ τ υ (k a ρ1) q := by
  unfold mBind at h
  cases e : m ρ with
  | bad => rw [e] at h; exact h
  | ok a ρ' => rw [e] at h; exact h
  | exc x ρ' => rw [e] at h; exact h
end

/-- an expression: its value on the stack -/
def tE (κ : Kx) (W : WX') (p : Bool) (m : M O) : TE := fun σ H Q => ∃ A F ρ τ υ, G κ A F H ρ σ τ υ ∧ Wp κ W A F H σ τ υ (m ρ) fun r ρ' => ∀ v A' F' H', Stp p ρ A F H ρ' A' F' H' → G κ A' F' H' ρ' σ (τ ++ [r]) (υ ++ [v]) → Q v H'
/-- an expression: its value shared -/
def tV (κ : Kx) (W : WX') (p : Bool) (m : M D) : TE := fun σ H Q => ∃ A F ρ τ υ, G κ A F H ρ σ τ υ ∧ Wp κ W A F H σ τ υ (m ρ) fun d ρ' => ∀ v A' F' H', Stp p ρ A F H ρ' A' F' H' → G κ A' F' H' ρ' σ τ υ → Rep κ F' v d → Q v H'
/-- expressions in a row: their values shared -/
def tVs (κ : Kx) (W : WX') (p : Bool) (m : M (List D)) : TA := fun σ H Q => ∃ A F ρ τ υ, G κ A F H ρ σ τ υ ∧ Wp κ W A F H σ τ υ (m ρ) fun ds ρ' => ∀ vs A' F' H', Stp p ρ A F H ρ' A' F' H' → G κ A' F' H' ρ' σ τ υ → Reps κ F' vs ds → Q vs H'
/-- where what is borrowed lies: in a slot, or in none -/
def Src (ρ : Env) (A : Fp) : Option Nat → List Addr → Prop
  | some i, B => ∀ b ∈ B, Ow ρ i ∧ b ∈ A (.s i)
  | none, B => ∀ b ∈ B, ∀ x, b ∉ A x
/-- an expression that is only looked at -/
def tB (κ : Kx) (W : WX') (p : Bool) (m : M (Option Nat × O)) : TE := fun σ H Q => ∃ A F ρ τ υ, G κ A F H ρ σ τ υ ∧ Wp κ W A F H σ τ υ (m ρ) fun r ρ' => ∀ v B A' F' H', Stp p ρ A F H ρ' A' F' H' → G κ A' F' H' ρ' σ τ υ → Own κ F' H' r.2 v B → Src ρ' A' r.1 B → Q v H'
inductive OwnL (κ : Kx) (ρ : Env) (A : Fp) (F H : Hp) : List (Option Nat × O) → List V → Prop
  | nil : OwnL κ ρ A F H [] []
  | cons {r : Option Nat × O} {v : V} {B : List Addr} {rs : List (Option Nat × O)} {vs : List V} : Own κ F H r.2 v B → Src ρ A r.1 B → OwnL κ ρ A F H rs vs → OwnL κ ρ A F H (r :: rs) (v :: vs)
/-- expressions in a row, only looked at -/
def tBs (κ : Kx) (W : WX') (p : Bool) (m : M (List (Option Nat × O))) : TA := fun σ H Q => ∃ A F ρ τ υ, G κ A F H ρ σ τ υ ∧ Wp κ W A F H σ τ υ (m ρ) fun rs ρ' => ∀ vs A' F' H', Stp p ρ A F H ρ' A' F' H' → G κ A' F' H' ρ' σ τ υ → OwnL κ ρ' A' F' H' rs vs → Q vs H'
/-- a test -/
def tT (κ : Kx) (W : WX') (p : Bool) (m : M Bool) : TT := fun σ H Q => ∃ A F ρ τ υ, G κ A F H ρ σ τ υ ∧ Wp κ W A F H σ τ υ (m ρ) fun r ρ' => ∀ A' F' H', Stp p ρ A F H ρ' A' F' H' → G κ A' F' H' ρ' σ τ υ → Q r H'
/-- what is wanted of a statement's end; the slots mu are not stored to -/
def PsO (κ : Kx) (W : WX') (mu : List Nat) (E : Ends) (σ : L2.St) (A : Fp) (F H : Hp) : OutS → Prop
  | .bad => False
  | .next ρ' => ∀ σ' A' F' H', Fr A F H A' F' H' → G κ A' F' H' ρ' σ' [] [] → (∀ i ∈ mu, σ'[i]? = σ[i]?) → E.nx σ' H'
  | .ret r ρ' => ∀ v σ' A' F' H', Fr A F H A' F' H' → G κ A' F' H' ρ' σ' [r] [v] → (∀ i ∈ mu, σ'[i]? = σ[i]?) → E.rt v H'
  | .brk ρ' => ∀ σ' A' F' H', Fr A F H A' F' H' → G κ A' F' H' ρ' σ' [] [] → (∀ i ∈ mu, σ'[i]? = σ[i]?) → E.bk σ' H'
  | .cont ρ' => ∀ σ' A' F' H', Fr A F H A' F' H' → G κ A' F' H' ρ' σ' [] [] → (∀ i ∈ mu, σ'[i]? = σ[i]?) → E.ct σ' H'
  | .exc e ρ' => ∀ cls d σ' A' F' H', Fr A F H A' F' H' → G κ A' F' H' ρ' σ' [] [] → ExRep κ F' H' cls d e → (∀ i ∈ mu, σ'[i]? = σ[i]?) → W cls d σ' H'
/-- a statement -/
def tS (κ : Kx) (W : WX') (mu : List Nat) (m : MS) : TS := fun E σ H => ∃ A F ρ, G κ A F H ρ σ [] [] ∧ PsO κ W mu E σ A F H (m ρ)

/-- a weaker reading -/
theorem pe_imp {X : Cx} {e : Expr} {t t' : TE} (h : PE X e t) (i : ∀ σ H Q, t' σ H Q → t σ H Q) : PE X e t' := ⟨fun pins s σ H Q I q => h.run pins s σ H Q I (i σ H Q q)⟩
theorem pt_imp {X : Cx} {e : Expr} {t t' : TT} (h : PT X e t) (i : ∀ σ H Q, t' σ H Q → t σ H Q) : PT X e t' := ⟨fun pins s σ H Q I q => h.run pins s σ H Q I (i σ H Q q)⟩
theorem ps_imp {X : Cx} {st : Stmt} {t t' : TS} (h : PS X st t) (i : ∀ E σ H, t' E σ H → t E σ H) : PS X st t' := ⟨fun pins s σ H E I q => h.run pins s σ H E I (i E σ H q)⟩
theorem pss_imp {X : Cx} {st : List Stmt} {t t' : TS} (h : PSs X st t) (i : ∀ E σ H, t' E σ H → t E σ H) : PSs X st t' := ⟨fun pins s σ H E I q => h.run pins s σ H E I (i E σ H q)⟩
end DL

end

section
set_option Elab.async false
set_option linter.all false
set_option maxRecDepth 100000
namespace DL
open PySem L2

section
variable {κ : Kx} {F H : Hp} {o : O} {v : V} {B : List Addr}
theorem Rep.int_v {i : Int} (r : Rep κ F v (.int i)) : v = .int i := by cases r; rfl
theorem Rep.bl_v {b : Bool} (r : Rep κ F v (.bl b)) : v = .bl b := by cases r; rfl
theorem Rep.str_v {x : Str} (r : Rep κ F v (.str x)) : v = .str x := by cases r; rfl
theorem Rep.non_v (r : Rep κ F v .non) : v = .non := by cases r; rfl
theorem Rep.tup_v {ds : List D} (r : Rep κ F v (.tup ds)) : ∃ a vs, v = .ref a ∧ F a = some (.tup vs) ∧ Reps κ F vs ds := by
  cases r with
  | tup h r => exact ⟨_, _, rfl, h, r⟩
theorem Rep.lst_v {ds : List D} (r : Rep κ F v (.lst ds)) : ∃ a vs, v = .ref a ∧ F a = some (.lst vs) ∧ Reps κ F vs ds := by
  cases r with
  | lst h r => exact ⟨_, _, rfl, h, r⟩
theorem Rep.fz_v {ds : List D} (r : Rep κ F v (.fz ds)) : ∃ a vs, v = .ref a ∧ SqL κ.K F a vs ∧ Reps κ F vs ds := by
  cases r with
  | fz h r => exact ⟨_, _, rfl, h, r⟩
theorem Rep.dk_v {ks : List Key} {ds : List D} (r : Rep κ F v (.dk ks ds)) : ∃ a kvs, v = .ref a ∧ F a = some (.dK kvs) ∧ kvs.map (·.1) = ks ∧ Reps κ F (kvs.map (·.2)) ds := by
  cases r with
  | dk h r => exact ⟨_, _, rfl, h, rfl, r⟩
theorem Rep.dt_v {ks : List (List Key)} {ds : List D} (r : Rep κ F v (.dt ks ds)) : ∃ a kvs, v = .ref a ∧ F a = some (.dT kvs) ∧ kvs.map (·.1) = ks ∧ Reps κ F (kvs.map (·.2)) ds := by
  cases r with
  | dt h r => exact ⟨_, _, rfl, h, rfl, r⟩
theorem Rep.ob_v {c : Str} {ns : List Str} {ds : List D} (r : Rep κ F v (.ob c ns ds)) : ∃ a C dx fs, v = .ref a ∧ F a = some (.ins C dx fs) ∧ κ.mg c = some (.ref C) ∧ fs.map (·.1) = ns ∧ Reps κ F (fs.map (·.2)) ds := by
  cases r with
  | ob h m r => exact ⟨_, _, _, _, rfl, h, m, rfl, r⟩
/-- a list that is owned or shared: its object in the whole heap, its items shared -/
theorem Own.lst_v {ds : List D} (w : Own κ F H o v B) (e : o.toD = .lst ds) (fh : Same F H) : ∃ a vs, v = .ref a ∧ H a = some (.lst vs) ∧ Reps κ F vs ds := by
  cases w with
  | fd w =>
    cases w with
    | sh r =>
      have e' : _ = D.lst ds := e
      subst e'
      obtain ⟨a, vs, h1, h2, h3⟩ := r.lst_v
      exact ⟨a, vs, h1, fh _ _ h2, h3⟩
    | ct w =>
      rename_i c a
      cases c with
      | lst ds' =>
        have e' : D.lst ds' = D.lst ds := e
        cases e'
        obtain ⟨vs, h1, h2⟩ := w
        exact ⟨a, vs, rfl, h1, h2⟩
      | dk _ _ => cases e
      | dt _ _ => cases e
  | ob _ _ _ => cases e
  | dk _ _ => cases e
theorem Own.tup_v {ds : List D} (w : Own κ F H o v B) (e : o.toD = .tup ds) : ∃ a vs, v = .ref a ∧ F a = some (.tup vs) ∧ Reps κ F vs ds := by
  cases w with
  | fd w =>
    cases w with
    | sh r =>
      have e' : _ = D.tup ds := e
      subst e'
      exact r.tup_v
    | ct w =>
      rename_i c a
      cases c <;> cases e
  | ob _ _ _ => cases e
  | dk _ _ => cases e
theorem Own.fz_v {ds : List D} (w : Own κ F H o v B) (e : o.toD = .fz ds) : ∃ a vs, v = .ref a ∧ SqL κ.K F a vs ∧ Reps κ F vs ds := by
  cases w with
  | fd w =>
    cases w with
    | sh r =>
      have e' : _ = D.fz ds := e
      subst e'
      exact r.fz_v
    | ct w =>
      rename_i c a
      cases c <;> cases e
  | ob _ _ _ => cases e
  | dk _ _ => cases e
theorem Own.int_v {i : Int} (w : Own κ F H o v B) (e : o.toD = .int i) (fh : Same F H) : v = .int i := by
  have r := w.repH fh
  rw [e] at r
  exact r.int_v
theorem Own.bl_v {b : Bool} (w : Own κ F H o v B) (e : o.toD = .bl b) (fh : Same F H) : v = .bl b := by
  have r := w.repH fh
  rw [e] at r
  exact r.bl_v
theorem Own.str_v {x : Str} (w : Own κ F H o v B) (e : o.toD = .str x) (fh : Same F H) : v = .str x := by
  have r := w.repH fh
  rw [e] at r
  exact r.str_v
theorem Own.non_v (w : Own κ F H o v B) (e : o.toD = .non) (fh : Same F H) : v = .non := by
  have r := w.repH fh
  rw [e] at r
  exact r.non_v
end

section
variable {κ : Kx} {A : Fp} {F H : Hp} {ρ : Env} {σ : L2.St} {τ : List O} {υ : List V}
/-- what an operation's end hands on -/
def Fin (κ : Kx) (A : Fp) (F H : Hp) (ρ : Env) (σ : L2.St) (τ : List O) (υ : List V) (o : O) (v : V) (H' : Hp) : Prop :=
  ∃ A' F', Stp true ρ A F H ρ A' F' H' ∧ G κ A' F' H' ρ σ (τ ++ [o]) (υ ++ [v])
theorem upA_t {k : Nat} {S : List Addr} (i : Nat) : upA A (.t k) S (.s i) = A (.s i) := upA_ne nofun
theorem fin_sh (g : G κ A F H ρ σ τ υ) {v : V} {d : D} (r : Rep κ F v d) : Fin κ A F H ρ σ τ υ (.sh d) v H :=
  ⟨_, F, Stp.refl.then (g.pushSh r).2 (Same.refl _) fun i => upA_t i, (g.pushSh r).1⟩
theorem same_new {H : Hp} {p : Addr} {o : HO} (h : H p = none) : Same H (upd H p o) := fun b u q => by rw [upd_ne (ne_of_none q h)]; exact q
theorem fin_tup (g : G κ A F H ρ σ τ υ) {p : Addr} {vs : List V} {ds : List D} (h : H p = none) (r : Reps κ F vs ds) : Fin κ A F H ρ σ τ υ (.sh (.tup ds)) (.ref p) (upd H p (.tup vs)) := by
  obtain ⟨g1, f1⟩ := g.share (.tup vs) h
  have e : Rep κ (upd F p (.tup vs)) (.ref p) (.tup ds) := .tup upd_same (r.mono f1.grow)
  obtain ⟨g2, f2⟩ := g1.pushSh e
  exact ⟨_, _, Stp.refl.then (f1.trans f2) (same_new h) fun i => upA_t i, g2⟩
theorem fin_lst (g : G κ A F H ρ σ τ υ) {p : Addr} {vs : List V} {ds : List D} (h : H p = none) (r : Reps κ F vs ds) : Fin κ A F H ρ σ τ υ (.lst ds) (.ref p) (upd H p (.lst vs)) := by
  obtain ⟨g2, f2⟩ := g.pushNew (r := .lst ds) h rfl (.fd (.ct ⟨vs, upd_same, r⟩))
  exact ⟨_, _, Stp.refl.then f2 (same_new h) fun i => upA_t i, g2⟩
end

def Op2 (κ : Kx) (r : R2) (f : D → D → Option O) : Prop := ∀ (A : Fp) (F H : Hp) (ρ : Env) (σ : L2.St) (τ : List O) (υ : List V), G κ A F H ρ σ τ υ →
  ∀ (o1 o2 : O) (v1 v2 : V) (B1 B2 : List Addr), Own κ F H o1 v1 B1 → Own κ F H o2 v2 B2 → ∀ o, f o1.toD o2.toD = some o → ∀ Q : VK, (∀ v H', Fin κ A F H ρ σ τ υ o v H' → Q v H') → r v1 v2 H Q
theorem Own.sh_v {κ : Kx} {F H : Hp} {d : D} {v : V} {B : List Addr} (w : Own κ F H (.sh d) v B) : Rep κ F v d := by
  cases w with
  | fd w => cases w with
    | sh r => exact r
theorem Own.sh_nil {κ : Kx} {F H : Hp} {d : D} {v : V} {B : List Addr} (w : Own κ F H (.sh d) v B) : B = [] := by
  cases w with
  | fd w => cases w with
    | sh r => rfl
theorem isSh_v {κ : Kx} {F H : Hp} {o : O} {v : V} {B : List Addr} (h : isSh o = true) (w : Own κ F H o v B) : ∃ d, o = .sh d ∧ Rep κ F v d := by
  cases w with
  | fd w =>
    cases w with
    | sh r => exact ⟨_, rfl, r⟩
    | ct _ => cases h
  | ob _ _ _ => cases h
  | dk _ _ => cases h
section
variable {X : Cx} {κ : Kx} {W : WX'} {a b : Expr} {pa pb : Bool} {ma mb : M (Option Nat × O)} {pos : Pos}
end

abbrev lim : Nat := 16777216
def addD : D → D → Option O
  | .int i, .int j => some (.sh (.int (i + j)))
  | .int i, .bl k => some (.sh (.int (i + PyProof.Rows.b2i k)))
  | .str x, .str y => if x.length + y.length ≤ lim then some (.sh (.str (x ++ y))) else none
  | .tup xs, .tup ys => if xs.length + ys.length ≤ lim then some (.sh (.tup (xs ++ ys))) else none
  | .lst xs, .lst ys => if xs.length + ys.length ≤ lim then some (.lst (xs ++ ys)) else none
  | _, _ => none
def rAddA (K : PySem.W.Frag) : R2 := fun x y H Q => (rI0 (fun i j => .int (i + j)) x y H Q ∨ (∃ i k, x = .int i ∧ y = .bl k ∧ Q (.int (i + PyProof.Rows.b2i k)) H)) ∨ (∃ i j, x = .str i ∧ y = .str j ∧ i.length + j.length ≤ sizeLine ∧ Q (.str (i ++ j)) H) ∨ rCatA K x y H Q ∨ rCat x y H Q
section
variable {X : Cx}
theorem op_addA : OpR X (binaryOp .Add) (rAddA X.K) := (op_add.or op_add_ib).or (op_add_str.or (op_catA.or op_cat))
end
theorem lim_eq : lim = sizeLine := sizeLine_eq.symm
theorem Same.tup {K : PySem.W.Frag} {F H : Hp} (e : Same F H) {a : Addr} {vs : List V} (h : SqT K F a vs) : SqT K H a vs := sqT_mono e h
theorem add_sem {κ : Kx} : Op2 κ (rAddA κ.K) addD := by
  intro A F H ρ σ τ υ g o1 o2 v1 v2 B1 B2 w1 w2 o e Q q
  have r1 := w1.repH g.fh
  have r2 := w2.repH g.fh
  unfold addD at e
  split at e
  · rename_i i j e1 e2
    cases e
    have a1 := w1.int_v e1 g.fh
    have a2 := w2.int_v e2 g.fh
    exact .inl (.inl ⟨i, j, a1, a2, q _ _ (fin_sh g (.int _))⟩)
  · rename_i i k e1 e2
    cases e
    exact .inl (.inr ⟨i, k, w1.int_v e1 g.fh, w2.bl_v e2 g.fh, q _ _ (fin_sh g (.int _))⟩)
  · rename_i x y e1 e2
    split at e
    · rename_i hl
      cases e
      exact .inr (.inl ⟨x, y, w1.str_v e1 g.fh, w2.str_v e2 g.fh, lim_eq ▸ hl, q _ _ (fin_sh g (.str _))⟩)
    · cases e
  · rename_i xs ys e1 e2
    split at e
    · rename_i hl
      cases e
      obtain ⟨a, vs, rfl, h1, s1⟩ := w1.tup_v e1
      obtain ⟨b, ws, rfl, h2, s2⟩ := w2.tup_v e2
      refine .inr (.inr (.inl ⟨a, b, vs, ws, rfl, rfl, SqT.of (g.fh _ _ h1), SqT.of (g.fh _ _ h2), by rw [s1.length, s2.length, ← lim_eq]; exact hl, fun z => ?_, fun _ z => ?_, fun _ _ p hp => ?_⟩))
      · subst z
        cases s1
        exact q _ _ (fin_sh g (.tup h2 s2))
      · subst z
        cases s2
        rw [List.append_nil] at q
        exact q _ _ (fin_sh g (.tup h1 s1))
      · exact q _ _ (fin_tup g hp (s1.append s2))
    · cases e
  · rename_i xs ys e1 e2
    split at e
    · rename_i hl
      cases e
      obtain ⟨a, vs, rfl, h1, s1⟩ := w1.lst_v e1 g.fh
      obtain ⟨b, ws, rfl, h2, s2⟩ := w2.lst_v e2 g.fh
      exact .inr (.inr (.inr ⟨a, b, vs, ws, rfl, rfl, h1, h2, by rw [s1.length, s2.length, ← lim_eq]; exact hl, fun p hp => q _ _ (fin_lst g hp (s1.append s2))⟩))
    · cases e
  · cases e

def liftI (f : Int → Int → Option Int) : D → D → Option O
  | .int i, .int j => match f i j with
    | some k => some (.sh (.int k))
    | none => none
  | _, _ => none
theorem op2_int {κ : Kx} {r : R2} {f : Int → Int → Option Int} (h : ∀ i j k H (Q : VK), f i j = some k → Q (.int k) H → r (.int i) (.int j) H Q) : Op2 κ r (liftI f) := by
  intro A F H ρ σ τ υ g o1 o2 v1 v2 B1 B2 w1 w2 o e Q q
  unfold liftI at e
  split at e
  · rename_i i j e1 e2
    split at e
    · rename_i k ek
      cases e
      rw [w1.int_v e1 g.fh, w2.int_v e2 g.fh]
      exact h i j k H Q ek (q _ _ (fin_sh g (.int _)))
    · cases e
  · cases e
def liftB (f : Int → Int → Bool) : D → D → Option O
  | .int i, .int j => some (.sh (.bl (f i j)))
  | _, _ => none
theorem op2_bl {κ : Kx} {r : R2} {f : Int → Int → Bool} (h : ∀ i j H (Q : VK), Q (.bl (f i j)) H → r (.int i) (.int j) H Q) : Op2 κ r (liftB f) := by
  intro A F H ρ σ τ υ g o1 o2 v1 v2 B1 B2 w1 w2 o e Q q
  unfold liftB at e
  split at e
  · rename_i i j e1 e2
    cases e
    rw [w1.int_v e1 g.fh, w2.int_v e2 g.fh]
    exact h i j H Q (q _ _ (fin_sh g (.bl _)))
  · cases e
theorem rI_of {C : Int → Int → Prop} {gf : Int → Int → V} {i j : Int} {H : Hp} {Q : VK} (hc : C i j) (q : Q (gf i j) H) : rI C gf (.int i) (.int j) H Q := ⟨i, j, rfl, rfl, hc, q⟩
theorem rI0_of {gf : Int → Int → V} {i j : Int} {H : Hp} {Q : VK} (q : Q (gf i j) H) : rI0 gf (.int i) (.int j) H Q := ⟨i, j, rfl, rfl, q⟩

def subI (i j : Int) : Option Int := some (i - j)
def P512 : Nat := 2 ^ 512
def mulI (i j : Int) : Option Int := if i.natAbs < P512 ∧ j.natAbs < P512 then some (i * j) else none
def divI (i j : Int) : Option Int := if 0 < j ∧ j.natAbs < P512 then some (i / j) else none
def modI (i j : Int) : Option Int := if 0 < j then some (i % j) else none
def powI (i j : Int) : Option Int := if 0 ≤ j ∧ j ≤ 1000000 ∧ i.natAbs < 18446744073709551616 then some (i ^ j.toNat) else none
theorem sub_sem {κ : Kx} : Op2 κ (rI0 fun i j => .int (i - j)) (liftI subI) := op2_int fun i j k H Q e q => by cases e; exact rI0_of q
theorem log512 {n : Nat} (h : n < P512) : n.log2 < 512 := PySem.Flt.log2_lt_of (by decide) h
theorem mul_semI {κ : Kx} : Op2 κ (rI CMulW fun i j => .int (i * j)) (liftI mulI) := op2_int fun i j k H Q e q => by
  unfold mulI at e
  split at e
  · rename_i hc
    cases e
    exact rI_of (wide_mul (a := 512) (b := 512) hc.1 hc.2 (by decide) (by decide) (by decide)) q
  · cases e
theorem div_sem {κ : Kx} : Op2 κ (rI CDivW fun i j => .int (i / j)) (liftI divI) := op2_int fun i j k H Q e q => by
  unfold divI at e
  split at e
  · rename_i hc
    cases e
    exact rI_of ⟨hc.1, Nat.lt_trans (log512 hc.2) (by decide)⟩ q
  · cases e
theorem mod_sem {κ : Kx} : Op2 κ (rI (fun _ j => 0 < j) fun i j => .int (i % j)) (liftI modI) := op2_int fun i j k H Q e q => by
  unfold modI at e
  split at e
  · rename_i hc
    cases e
    exact rI_of hc q
  · cases e
theorem pow_sem {κ : Kx} : Op2 κ (rI CPow fun i j => .int (i ^ j.toNat)) (liftI powI) := op2_int fun i j k H Q e q => by
  unfold powI at e
  split at e
  · rename_i hc
    cases e
    exact rI_of ⟨hc.1, hc.2.1, hc.2.2⟩ q
  · cases e
theorem lt_sem {κ : Kx} : Op2 κ (rI0 fun i j => .bl (decide (i < j))) (liftB fun i j => decide (i < j)) := op2_bl fun i j H Q q => rI0_of q
theorem gt_sem {κ : Kx} : Op2 κ (rI0 fun i j => .bl (decide (j < i))) (liftB fun i j => decide (j < i)) := op2_bl fun i j H Q q => rI0_of q
theorem ge_sem {κ : Kx} : Op2 κ (rI0 fun i j => .bl (decide (j ≤ i))) (liftB fun i j => decide (j ≤ i)) := op2_bl fun i j H Q q => rI0_of q

mutual
def toPy : D → Option PyData
  | .non => some .none
  | .bl b => some (.bool b)
  | .int i => some (.int i)
  | .str x => some (.str x)
  | .tup xs => match toPys xs with
    | some ys => some (.tuple ys)
    | none => none
  | .lst xs => match toPys xs with
    | some ys => some (.list ys)
    | none => none
  | _ => none
def toPys : List D → Option (List PyData)
  | [] => some []
  | x :: xs => match toPy x, toPys xs with
    | some y, some ys => some (y :: ys)
    | _, _ => none
end
mutual
theorem Rep.dp {κ : Kx} {F : Hp} : ∀ {v : V} {d : D} {p : PyData}, Rep κ F v d → toPy d = some p → Dp κ.K F v p
  | _, _, _, .non, e => by simp only [toPy] at e; cases e; exact .non
  | _, _, _, .bl b, e => by simp only [toPy] at e; cases e; exact .bl b
  | _, _, _, .int i, e => by simp only [toPy] at e; cases e; exact .int i
  | _, _, _, .str x, e => by simp only [toPy] at e; cases e; exact .str x
  | _, _, _, .tup h r, e => by
    simp only [toPy] at e
    split at e
    · rename_i ys ey; cases e; exact .tup (SqT.of h) (Reps.dp r ey)
    · cases e
  | _, _, _, .lst h r, e => by
    simp only [toPy] at e
    split at e
    · rename_i ys ey; cases e; exact .lst (.inl (.inl h)) (Reps.dp r ey)
    · cases e
  | _, _, _, .fz _ _, e => by simp only [toPy] at e; cases e
  | _, _, _, .dk _ _, e => by simp only [toPy] at e; cases e
  | _, _, _, .dt _ _, e => by simp only [toPy] at e; cases e
  | _, _, _, .ob _ _ _, e => by simp only [toPy] at e; cases e
theorem Reps.dp {κ : Kx} {F : Hp} : ∀ {vs : List V} {ds : List D} {ps : List PyData}, Reps κ F vs ds → toPys ds = some ps → DpAll κ.K F vs ps
  | _, _, _, .nil, e => by simp only [toPys] at e; cases e; exact .nil
  | _, _, _, .cons h r, e => by
    simp only [toPys] at e
    split at e
    · rename_i y ys e1 e2; cases e; exact .cons (Rep.dp h e1) (Reps.dp r e2)
    · cases e
end
def eqD (a b : D) : Option Bool := match toPy a, toPy b with
  | some p, some q => if SeqAt.shaped p && SeqAt.shaped q then some (PyData.eqv p q) else none
  | _, _ => none
def eqO (a b : D) : Option O := match eqD a b with
  | some c => some (.sh (.bl c))
  | none => none
def neO (a b : D) : Option O := match eqD a b with
  | some c => some (.sh (.bl (!c)))
  | none => none
theorem eqD_of {a b : D} {c : Bool} (h : eqD a b = some c) : ∃ p q, toPy a = some p ∧ toPy b = some q ∧ SeqAt.shaped p = true ∧ SeqAt.shaped q = true ∧ c = PyData.eqv p q := by
  unfold eqD at h
  split at h
  · rename_i p q e1 e2
    split at h
    · rename_i hc
      cases h
      obtain ⟨h1, h2⟩ := Bool.and_eq_true_iff.mp hc
      exact ⟨p, q, e1, e2, h1, h2, rfl⟩
    · cases h
  · cases h
theorem eq_sem {κ : Kx} : Op2 κ (rEqD κ.K) eqO := by
  intro A F H ρ σ τ υ g o1 o2 v1 v2 B1 B2 w1 w2 o e Q q
  unfold eqO at e
  split at e
  · rename_i c ec
    cases e
    obtain ⟨p, p', h1, h2, h3, h4, rfl⟩ := eqD_of ec
    exact ⟨p, p', (w1.repH g.fh).dp h1, (w2.repH g.fh).dp h2, h3, h4, q _ _ (fin_sh g (.bl _))⟩
  · cases e
theorem ne_sem {κ : Kx} : Op2 κ (rNeD κ.K) neO := by
  intro A F H ρ σ τ υ g o1 o2 v1 v2 B1 B2 w1 w2 o e Q q
  unfold neO at e
  split at e
  · rename_i c ec
    cases e
    obtain ⟨p, p', h1, h2, h3, h4, rfl⟩ := eqD_of ec
    exact ⟨p, p', (w1.repH g.fh).dp h1, (w2.repH g.fh).dp h2, h3, h4, q _ _ (fin_sh g (.bl _))⟩
  · cases e

def isD : D → D → Option Bool
  | .non, .non => some true
  | .bl a, .bl b => some (decide (a = b))
  | .ob _ _ _, .non | .tup _, .non | .lst _, .non | .int _, .non | .bl _, .non | .str _, .non | .dk _ _, .non | .dt _ _, .non => some false
  | _, _ => none
def isO (a b : D) : Option O := match isD a b with
  | some c => some (.sh (.bl c))
  | none => none
def isnO (a b : D) : Option O := match isD a b with
  | some c => some (.sh (.bl (!c)))
  | none => none
end DL

end

section
set_option Elab.async false
set_option linter.all false
set_option maxRecDepth 100000
namespace DL
open PySem L2
def mMap {α β : Type} (f : α → β) (m : M α) : M β := fun ρ => match m ρ with
  | .bad => .bad
  | .ok a ρ' => .ok (f a) ρ'
  | .exc e ρ' => .exc e ρ'
section
variable {κ : Kx} {W : WX'} {A A1 : Fp} {F F1 H H1 : Hp} {σ : L2.St} {τ : List O} {υ : List V} {α β : Type}
theorem Wp.map {m : M α} {f : α → β} {ρ : Env} {q : β → Env → Prop} (h : Wp κ W A F H σ τ υ (mMap f m ρ) q) : Wp κ W A F H σ τ υ (m ρ) fun a ρ1 => q (f a) ρ1 := by
  unfold mMap at h
  cases e : m ρ with
  | bad => rw [e] at h; exact h
  | ok a ρ' => rw [e] at h; exact h
  | exc x ρ' => rw [e] at h; exact h
end

section
variable {X : Cx} {κ : Kx} {W : WX'} {e : Expr} {p : Bool}
theorem dV_E {m : M O} (h : PE X e (tE κ W p m)) : PE X e (tV κ W p (mMap O.toD m)) := pe_imp h fun σ H Q ⟨A, F, ρ, τ, υ, g, h⟩ => by
  refine ⟨A, F, ρ, τ, υ, g, h.map.imp fun r ρ' h v A' F' H' s g' => ?_⟩
  obtain ⟨F2, g2, f2, r2⟩ := g'.freezeT
  obtain ⟨g3, _, f3⟩ := g2.pop
  exact h v _ F2 H' (s.then (f2.trans f3) (Same.refl _) fun i => by rw [upA_t, upA_t]) g3 r2
theorem dE_V {m : M D} (h : PE X e (tV κ W p m)) : PE X e (tE κ W p (mMap O.sh m)) := pe_imp h fun σ H Q ⟨A, F, ρ, τ, υ, g, h⟩ => by
  refine ⟨A, F, ρ, τ, υ, g, h.map.imp fun r ρ' h v A' F' H' s g' rp => ?_⟩
  exact h v _ F' H' (s.then (g'.pushSh rp).2 (Same.refl _) fun i => upA_t i) (g'.pushSh rp).1
theorem dB_V {m : M D} (h : PE X e (tV κ W p m)) : PE X e (tB κ W p (mMap (fun d => (none, .sh d)) m)) := pe_imp h fun σ H Q ⟨A, F, ρ, τ, υ, g, h⟩ =>
  ⟨A, F, ρ, τ, υ, g, h.map.imp fun r ρ' h v A' F' H' s g' rp => h v [] A' F' H' s g' (.fd (.sh rp)) fun b hb => absurd hb (by simp)⟩
theorem dB_E {m : M O} (h : PE X e (tE κ W p m)) : PE X e (tB κ W p (mMap (fun o => (none, o)) m)) := pe_imp h fun σ H Q ⟨A, F, ρ, τ, υ, g, h⟩ => by
  refine ⟨A, F, ρ, τ, υ, g, h.map.imp fun r ρ' h v A' F' H' s g' => ?_⟩
  obtain ⟨g2, w, f2⟩ := g'.pop
  refine h v _ _ F' H' (s.then f2 (Same.refl _) fun i => upA_t i) g2 w fun b hb x hx => ?_
  · by_cases q : x = .t τ.length
    · subst q; rw [upA_same] at hx; simp at hx
    · rw [upA_ne q] at hx
      exact g'.dj _ _ b (Ne.symm q) hb hx
def asSh : Option Nat × O → M D
  | (_, .fd (.sh d)) => mPure d
  | _ => fun _ => .bad
theorem dV_B {m : M (Option Nat × O)} (h : PE X e (tB κ W p m)) : PE X e (tV κ W p (mBind m asSh)) := pe_imp h fun σ H Q ⟨A, F, ρ, τ, υ, g, h⟩ => by
  refine ⟨A, F, ρ, τ, υ, g, h.bind.imp fun r ρ' h v B A' F' H' s g' w _ => ?_⟩
  obtain ⟨z, o⟩ := r
  cases w with
  | fd w =>
    cases w with
    | sh rp => exact h v A' F' H' s g' rp
    | ct _ => exact h.elim
  | ob _ _ _ => exact h.elim
  | dk _ _ => exact h.elim
end

def mNameB (i : Nat) : M (Option Nat × O) := fun ρ => match ρ[i]? with
  | some (some o) => .ok (some i, o) ρ
  | _ => .bad
/-- shared data of a slot -/
def mNameS (i : Nat) : M D := fun ρ => match ρ[i]? with
  | some (some (.fd (.sh d))) => .ok d ρ
  | _ => .bad
/-- .. frozen, if it is owned -/
def mNameV (i : Nat) : M D := fun ρ => match ρ[i]? with
  | some (some o) => .ok o.toD (ρ.set i (some (.sh o.toD)))
  | _ => .bad
/-- .. moved -/
def mNameM (i : Nat) : M O := fun ρ => match ρ[i]? with
  | some (some o) => .ok o (ρ.set i none)
  | _ => .bad
section
variable {X : Cx} {κ : Kx} {W : WX'} {i : Nat} {x : Str} {pos : Pos}
theorem G.slot {A : Fp} {F H : Hp} {ρ : Env} {σ : L2.St} {τ : List O} {υ : List V} (g : G κ A F H ρ σ τ υ) {o : O} (h : ρ[i]? = some (some o)) : ∃ v, σ[i]? = some (some v) ∧ Own κ F H o v (A (.s i)) := by
  obtain ⟨v, h1, h2⟩ := g.own (.s i) o (by simp [atO, h])
  refine ⟨v, ?_, h2⟩
  cases e : σ[i]? with
  | none => simp [atV, e] at h1
  | some u => simp [atV, e] at h1; rw [h1]
theorem dB_name (h : PE X (.Name x pos) (tVar i)) : PE X (.Name x pos) (tB κ W true (mNameB i)) := pe_imp h fun σ H Q ⟨A, F, ρ, τ, υ, g, h⟩ => by
  unfold mNameB at h
  split at h
  · rename_i o e
    obtain ⟨v, h1, h2⟩ := g.slot e
    refine ⟨v, h1, h v _ A F H .refl g h2 fun b hb => ⟨⟨o, e, ?_⟩, hb⟩⟩
    cases q : isSh o with
    | false => rfl
    | true =>
      obtain ⟨d, rfl, _⟩ := isSh_v q h2
      rw [h2.sh_nil] at hb
      simp at hb
  · exact h.elim
theorem dV_nameV (h : PE X (.Name x pos) (tVar i)) : PE X (.Name x pos) (tV κ W false (mNameV i)) := pe_imp h fun σ H Q ⟨A, F, ρ, τ, υ, g, h⟩ => by
  unfold mNameV at h
  split at h
  · rename_i o e
    obtain ⟨F', g', f', v, h1, h2⟩ := g.freeze e
    exact ⟨v, h1, h v _ F' H (.no f') g' h2⟩
  · exact h.elim
theorem dE_nameM (h : PE X (.Name x pos) (tVar i)) : PE X (.Name x pos) (tE κ W false (mNameM i)) := pe_imp h fun σ H Q ⟨A, F, ρ, τ, υ, g, h⟩ => by
  unfold mNameM at h
  split at h
  · rename_i o e
    obtain ⟨v, h1, _⟩ := g.slot e
    obtain ⟨g', f'⟩ := g.move e h1
    exact ⟨v, h1, h v _ F H (.no f') g'⟩
  · exact h.elim
theorem dV_c {e : Expr} {v : V} {d : D} (h : PE X e (tC v)) (r : ∀ F, Rep κ F v d) : PE X e (tV κ W true (mPure d)) := pe_imp h fun σ H Q ⟨A, F, ρ, τ, υ, g, h⟩ => h v A F H .refl g (r F)
theorem dV_int {j : Int} {k : Nat} : PE X (.Constant (.int j) k pos) (tV κ W true (mPure (.int j))) := dV_c pe_int fun _ => .int _
theorem dV_bl {b : Bool} {k : Nat} : PE X (.Constant (.bool b) k pos) (tV κ W true (mPure (.bl b))) := dV_c pe_bl fun _ => .bl _
theorem dV_non {k : Nat} : PE X (.Constant .none k pos) (tV κ W true (mPure .non)) := dV_c pe_non fun _ => .non
theorem dV_str {z : Str} {k : Nat} : PE X (.Constant (.str z) k pos) (tV κ W true (mPure (.str z))) := dV_c pe_str fun _ => .str _
end

def mCons (m : M D) (ms : M (List D)) : M (List D) := mBind m fun d => mBind ms fun ds => mPure (d :: ds)
def mTup (ms : M (List D)) : M D := mBind ms fun ds => if ds.length ≤ lim then mPure (.tup ds) else fun _ => .bad
def mLst (ms : M (List D)) : M O := mBind ms fun ds => if ds.length ≤ lim then mPure (.lst ds) else fun _ => .bad
def mConsB (pt : Bool) (m : M (Option Nat × O)) (ms : M (List (Option Nat × O))) : M (List (Option Nat × O)) := mBind m fun x => if pt || isSh x.2 then mBind ms fun xs => mPure (x :: xs) else fun _ => .bad
section
variable {X : Cx} {κ : Kx} {W : WX'} {e : Expr} {es : List Expr} {p q : Bool} {pos : Pos}
theorem pa_imp {t t' : TA} (h : PA X es t) (i : ∀ σ H Q, t' σ H Q → t σ H Q) : PA X es t' := ⟨fun pos pins s σ H Q I q => h.run pos pins s σ H Q I (i σ H Q q)⟩
theorem dVs_nil : PA X [] (tVs κ W true (mPure [])) := pa_imp pa_nil fun σ H Q ⟨A, F, ρ, τ, υ, g, h⟩ => h [] A F H .refl g .nil
theorem dVs_cons {m : M D} {ms : M (List D)} (h1 : PE X e (tV κ W p m)) (h2 : PA X es (tVs κ W q ms)) (hs : starEach (e :: es) X.env = (false, eval e X.env) :: starEach es X.env := by rfl) : PA X (e :: es) (tVs κ W (p && q) (mCons m ms)) :=
  pa_imp (pa_cons h1 h2 hs) fun σ H Q ⟨A, F, ρ, τ, υ, g, h⟩ =>
    ⟨A, F, ρ, τ, υ, g, h.bind.imp fun d ρ1 h v A1 F1 H1 s1 g1 r1 => ⟨A1, F1, ρ1, τ, υ, g1, (h.step s1.fr).bind.imp fun ds ρ2 h vs A2 F2 H2 s2 g2 r2 => h (v :: vs) A2 F2 H2 (s1.trans s2) g2 (.cons (r1.mono s2.fr.grow) r2)⟩⟩
theorem dV_tup {k : Nat} {ms : M (List D)} (h : PA X es (tVs κ W p ms)) : PE X (.Tuple es k pos) (tV κ W p (mTup ms)) := pe_imp (pe_tup h) fun σ H Q ⟨A, F, ρ, τ, υ, g, h⟩ =>
  ⟨A, F, ρ, τ, υ, g, h.bind.imp fun ds ρ' h vs A' F' H' s g' r => by
    split at h
    · rename_i hl
      refine ⟨by rw [r.length, ← lim_eq]; exact hl, fun a ha => ?_⟩
      obtain ⟨g2, f2⟩ := g'.share (.tup vs) ha
      exact h (.ref a) A' _ _ (s.then f2 (same_new ha) fun _ => rfl) g2 (.tup upd_same (r.mono f2.grow))
    · exact h.elim⟩
theorem dE_lst {ms : M (List D)} (h : PA X es (tVs κ W p ms)) : PE X (.List es pos) (tE κ W p (mLst ms)) := pe_imp (pe_lst h) fun σ H Q ⟨A, F, ρ, τ, υ, g, h⟩ =>
  ⟨A, F, ρ, τ, υ, g, h.bind.imp fun ds ρ' h vs A' F' H' s g' r => by
    split at h
    · rename_i hl
      refine ⟨by rw [r.length, ← lim_eq]; exact hl, fun a ha => ?_⟩
      obtain ⟨A2, F2, s2, g2⟩ := fin_lst g' ha r
      exact h (.ref a) A2 F2 _ ((s.trans s2).imp fun z => by rw [z]; rfl) g2
    · exact h.elim⟩
theorem Stp.srcs {p : Bool} {ρ ρ' : Env} {A A' : Fp} {F F' H H' : Hp} (s : Stp p ρ A F H ρ' A' F' H') : ∀ b, ¬ Fresh H b → ∀ x, b ∈ A' x → ∃ y, b ∈ A y := fun b n x hx => by
  rcases s.fr.new x b hx with h | h
  · exact h
  · exact absurd h n
theorem Src.stay {κ : Kx} {p : Bool} {ρ ρ' : Env} {A A' : Fp} {F F' H H' : Hp} {z : Option Nat} {o : O} {v : V} {B : List Addr} (w : Own κ F H o v B) (sr : Src ρ A z B) (s : Stp p ρ A F H ρ' A' F' H') (q : p = true) : Src ρ' A' z B := by
  cases z with
  | some i =>
    intro b hb
    obtain ⟨h1, h2⟩ := sr b hb
    obtain ⟨h3, h4⟩ := (s.pu q).2 i h1
    exact ⟨h3, h4 b h2⟩
  | none =>
    intro b hb x hx
    obtain ⟨u, hu, hn⟩ := w.there b hb
    obtain ⟨y, hy⟩ := s.srcs b (Fresh.no hu hn) x hx
    exact sr b hb y hy
theorem Src.sh {ρ : Env} {A : Fp} {z : Option Nat} : Src ρ A z [] := by
  cases z <;> intro b hb <;> simp at hb
theorem dBs_nil : PA X [] (tBs κ W true (mPure [])) := pa_imp pa_nil fun σ H Q ⟨A, F, ρ, τ, υ, g, h⟩ => h [] A F H .refl g .nil
theorem dBs_cons {m : M (Option Nat × O)} {ms : M (List (Option Nat × O))} (h1 : PE X e (tB κ W p m)) (h2 : PA X es (tBs κ W q ms)) (hs : starEach (e :: es) X.env = (false, eval e X.env) :: starEach es X.env := by rfl) : PA X (e :: es) (tBs κ W (p && q) (mConsB q m ms)) :=
  pa_imp (pa_cons h1 h2 hs) fun σ H Q ⟨A, F, ρ, τ, υ, g, h⟩ =>
    ⟨A, F, ρ, τ, υ, g, h.bind.imp fun x ρ1 h v B A1 F1 H1 s1 g1 w1 sr => by
      split at h
      · rename_i hc
        refine ⟨A1, F1, ρ1, τ, υ, g1, (h.step s1.fr).bind.imp fun xs ρ2 h vs A2 F2 H2 s2 g2 w2 => ?_⟩
        rcases Bool.or_eq_true_iff.mp hc with z | z
        · exact h (v :: vs) A2 F2 H2 (s1.trans s2) g2 (.cons (w1.mono s2.fr.grow fun b _ o e => (s2.pu z).1 b o e) (Src.stay w1 sr s2 z) w2)
        · obtain ⟨j, o⟩ := x
          obtain ⟨d, e, r⟩ := isSh_v z w1
          have e' : o = .sh d := e
          subst e'
          exact h (v :: vs) A2 F2 H2 (s1.trans s2) g2 (.cons (.fd (.sh (r.mono s2.fr.grow))) Src.sh w2)
      · exact h.elim⟩
end

/-- a program's classes: which fields are plain -/
def FieldsOk (κ : Kx) (tbl : Str → Str → Bool) : Prop := ∀ c f, tbl c f = true → ∀ C, κ.mg c = some (.ref C) → Cls κ.K C ∧ NoAttr κ.K C f
def lookD {α : Type} : List Str → List α → Str → Option α
  | n :: ns, v :: vs, f => if f = n then some v else lookD ns vs f
  | _, _, _ => none
/-- a field of what is looked at -/
def fieldOf (tbl : Str → Str → Bool) (f : Str) : Option Nat × O → M (Option Nat × O)
  | (_, .fd (.sh (.ob c ns vs))) => if tbl c f = true then match lookD ns vs f with
    | some d => mPure (none, .sh d)
    | none => fun _ => .bad
    else fun _ => .bad
  | (z, .rc (.ob c ns) fs) => if tbl c f = true then match lookD ns fs f with
    | some (.sh d) => mPure (none, .sh d)
    | some (.ct k) => mPure (z, .fd (.ct k))
    | none => fun _ => .bad
    else fun _ => .bad
  | _ => fun _ => .bad
theorem lookup_reps {κ : Kx} {F : Hp} {f : Str} {d : D} : ∀ {fs : List (Str × V)} {ds : List D}, Reps κ F (fs.map (·.2)) ds → lookD (fs.map (·.1)) ds f = some d → ∃ v, fs.lookup f = some v ∧ Rep κ F v d
  | [], _, _, e => by simp [lookD] at e
  | (n, v) :: fs, ds, r, e => by
    cases r with
    | cons h r =>
      simp only [List.map_cons, lookD] at e
      by_cases q : f = n
      · rw [if_pos q] at e
        cases e
        subst q
        exact ⟨v, by simp, h⟩
      · rw [if_neg q] at e
        obtain ⟨u, h1, h2⟩ := lookup_reps r e
        refine ⟨u, ?_, h2⟩
        have q' : (f == n) = false := by simpa using q
        rw [List.lookup_cons, q']
        exact h1
theorem lookup_owns {κ : Kx} {F H : Hp} {f : Str} {d : Fd} : ∀ {fs : List (Str × V)} {gs : List Fd} {T : List Addr}, OwnFs κ F H gs (fs.map (·.2)) T → lookD (fs.map (·.1)) gs f = some d → ∃ v S, fs.lookup f = some v ∧ OwnF κ F H d v S ∧ ∀ b ∈ S, b ∈ T
  | [], _, _, _, e => by simp [lookD] at e
  | (n, v) :: fs, ds, T, r, e => by
    cases r with
    | cons h r =>
      simp only [List.map_cons, lookD] at e
      by_cases q : f = n
      · rw [if_pos q] at e
        cases e
        subst q
        exact ⟨v, _, by simp, h, fun b hb => List.mem_append_left _ hb⟩
      · rw [if_neg q] at e
        obtain ⟨u, S, h1, h2, h3⟩ := lookup_owns r e
        refine ⟨u, S, ?_, h2, fun b hb => List.mem_append_right _ (h3 b hb)⟩
        have q' : (f == n) = false := by simpa using q
        rw [List.lookup_cons, q']
        exact h1
theorem Own.ob_v {κ : Kx} {F H : Hp} {c : Str} {ns : List Str} {gs : List Fd} {v : V} {B : List Addr} (w : Own κ F H (.rc (.ob c ns) gs) v B) :
    ∃ a C dx fs T, v = .ref a ∧ H a = some (.ins C dx fs) ∧ κ.mg c = some (.ref C) ∧ fs.map (·.1) = ns ∧ OwnFs κ F H gs (fs.map (·.2)) T ∧ B = a :: T := by
  cases w with
  | ob h m q => exact ⟨_, _, _, _, _, rfl, h, m, rfl, q, rfl⟩
theorem Own.dk_v {κ : Kx} {F H : Hp} {ks : List Key} {gs : List Fd} {v : V} {B : List Addr} (w : Own κ F H (.rc (.dk ks) gs) v B) :
    ∃ a kvs T, v = .ref a ∧ H a = some (.dK kvs) ∧ kvs.map (·.1) = ks ∧ OwnFs κ F H gs (kvs.map (·.2)) T ∧ B = a :: T := by
  cases w with
  | dk h q => exact ⟨_, _, _, rfl, h, rfl, q, rfl⟩
theorem OwnF.sh_v {κ : Kx} {F H : Hp} {d : D} {v : V} {B : List Addr} (w : OwnF κ F H (.sh d) v B) : Rep κ F v d := by
  cases w with
  | sh r => exact r
theorem Src.sub {ρ : Env} {A : Fp} {z : Option Nat} {B B' : List Addr} (h : Src ρ A z B) (s : ∀ b ∈ B', b ∈ B) : Src ρ A z B' := by
  cases z with
  | some i => exact fun b hb => h b (s b hb)
  | none => exact fun b hb => h b (s b hb)
section
variable {X : Cx} {W : WX'} {e : Expr} {p : Bool} {pos : Pos} {f : Str}
theorem dB_fld {tbl : Str → Str → Bool} {m : M (Option Nat × O)} (ht : FieldsOk (kx X) tbl) (h : PE X e (tB (kx X) W p m)) (hb : attributeBase e f X.env (eval e X.env) = eval e X.env := by rfl) : PE X (.Attribute e f pos) (tB (kx X) W p (mBind m (fieldOf tbl f))) :=
  pe_imp (pe_fld h hb) fun σ H Q ⟨A, F, ρ, τ, υ, g, h⟩ => by
    refine ⟨A, F, ρ, τ, υ, g, h.bind.imp fun x ρ1 h v B A1 F1 H1 s1 g1 w sr => ?_⟩
    unfold fieldOf at h
    split at h
    · rename_i z c ns vs
      split at h
      · rename_i e1
        cases e2 : lookD ns vs f with
        | none => rw [e2] at h; exact h.elim
        | some d =>
          rw [e2] at h
          obtain ⟨a, C, dx, fs, rfl, h1, h2, rfl, r⟩ := w.sh_v.ob_v
          obtain ⟨u, h3, h4⟩ := lookup_reps r e2
          obtain ⟨c1, c2⟩ := ht c f e1 C h2
          exact ⟨a, C, dx, fs, u, rfl, g1.fh _ _ h1, c1, c2, h3, h u [] A1 F1 H1 s1 g1 (.fd (.sh h4)) Src.sh⟩
      · exact h.elim
    · rename_i z c ns fs
      obtain ⟨a, C, dx, vfs, T, rfl, h1, h2, rfl, ws, hB⟩ := w.ob_v
      split at h
      · rename_i e1
        obtain ⟨c1, c2⟩ := ht c f e1 C h2
        cases e2 : lookD (vfs.map (·.1)) fs f with
        | none => rw [e2] at h; exact h.elim
        | some q =>
          rw [e2] at h
          obtain ⟨u, S, h3, h4, h5⟩ := lookup_owns ws e2
          cases q with
          | sh d => exact ⟨a, C, dx, vfs, u, rfl, h1, c1, c2, h3, h u [] A1 F1 H1 s1 g1 (.fd (.sh h4.sh_v)) Src.sh⟩
          | ct k => exact ⟨a, C, dx, vfs, u, rfl, h1, c1, c2, h3, h u S A1 F1 H1 s1 g1 (.fd h4) (sr.sub fun b hb => by rw [hB]; exact List.mem_cons_of_mem _ (h5 b hb))⟩
      · exact h.elim
    · exact h.elim
end

theorem pe_either {X : Cx} {e : Expr} {t u : TE} (h : PE X e t) (h' : PE X e u) : PE X e (fun σ H Q => t σ H Q ∨ u σ H Q) := ⟨fun pins s σ H Q I q => by
  rcases q with q | q
  · exact h.run pins s σ H Q I q
  · exact h'.run pins s σ H Q I q⟩
def keyD : D → Option Key
  | .int i => some (.inl i)
  | .str x => some (.inr x)
  | _ => none
def keysD : List D → Option (List Key)
  | [] => some []
  | d :: ds => match keyD d, keysD ds with
    | some k, some ks => some (k :: ks)
    | _, _ => none
def lookK {κ α : Type} [DecidableEq κ] : List κ → List α → κ → Option α
  | n :: ns, v :: vs, f => if n = f then some v else lookK ns vs f
  | _, _, _ => none
/-- an item by its place or key -/
def itemOf : Option Nat × O → D → Option (Option Nat × O)
  | (_, .fd (.ct (.lst xs))), .int i | (_, .fd (.sh (.lst xs))), .int i | (_, .fd (.sh (.tup xs))), .int i => match atI xs i with
    | some d => some (none, .sh d)
    | none => none
  | (_, .fd (.sh (.str z))), .int i => if z.length ≤ lim then match atI z.cps.toList i with
    | some c => some (none, .sh (.str ⟨#[c]⟩))
    | none => none else none
  | (_, .fd (.ct (.dk ks vs))), k | (_, .fd (.sh (.dk ks vs))), k => match keyD k with
    | some k => match lookK ks vs k with
      | some d => some (none, .sh d)
      | none => none
    | none => none
  | (z, .rc (.dk ks) fs), k => match keyD k with
    | some k => match lookK ks fs k with
      | some (.sh d) => some (none, .sh d)
      | some (.ct c) => some (z, .fd (.ct c))
      | none => none
    | none => none
  | (_, .fd (.ct (.dt ks vs))), .tup k | (_, .fd (.sh (.dt ks vs))), .tup k => match keysD k with
    | some k => match lookK ks vs k with
      | some d => some (none, .sh d)
      | none => none
    | none => none
  | _, _ => none
theorem key_v {κ : Kx} {F : Hp} {v : V} {d : D} {k : Key} (r : Rep κ F v d) (e : keyD d = some k) : v = kV k := by
  cases r <;> simp only [keyD] at e <;> first | (cases e; rfl) | cases e
theorem keys_v {κ : Kx} {F : Hp} : ∀ {vs : List V} {ds : List D} {ks : List Key}, Reps κ F vs ds → keysD ds = some ks → vs = ks.map kV
  | _, _, _, .nil, e => by simp only [keysD] at e; cases e; rfl
  | _, _, _, .cons h r, e => by
    simp only [keysD] at e
    split at e
    · rename_i k ks e1 e2
      cases e
      rw [key_v h e1, keys_v r e2]
      rfl
    · cases e
theorem val_reps {κ : Kx} {F : Hp} {ι : Type} [DecidableEq ι] {k : ι} : ∀ {kvs : List (ι × V)} {ds : List D}, Reps κ F (kvs.map (·.2)) ds →
    (∀ d, lookK (kvs.map (·.1)) ds k = some d → ∃ v, valV kvs k = some v ∧ Rep κ F v d) ∧ (lookK (kvs.map (·.1)) ds k = none → valV kvs k = none)
  | [], _, r => by cases r; exact ⟨fun d e => by simp [lookK] at e, fun _ => rfl⟩
  | (n, v) :: kvs, _, r => by
    cases r with
    | cons h r =>
      have ih := val_reps (k := k) r
      by_cases q : n = k
      · refine ⟨fun d e => ⟨v, ?_, ?_⟩, fun e => ?_⟩
        · simp [valV, q]
        · simp only [List.map_cons, lookK, if_pos q] at e; cases e; exact h
        · simp only [List.map_cons, lookK, if_pos q] at e; cases e
      · have e1 : valV ((n, v) :: kvs) k = valV kvs k := by simp [valV, q]
        refine ⟨fun d e => ?_, fun e => ?_⟩
        · simp only [List.map_cons, lookK, if_neg q] at e
          rw [e1]; exact ih.1 d e
        · simp only [List.map_cons, lookK, if_neg q] at e
          rw [e1]; exact ih.2 e
theorem val_owns {κ : Kx} {F H : Hp} {ι : Type} [DecidableEq ι] {k : ι} : ∀ {kvs : List (ι × V)} {gs : List Fd} {T : List Addr}, OwnFs κ F H gs (kvs.map (·.2)) T →
    (∀ d, lookK (kvs.map (·.1)) gs k = some d → ∃ v S, valV kvs k = some v ∧ OwnF κ F H d v S ∧ ∀ b ∈ S, b ∈ T) ∧ (lookK (kvs.map (·.1)) gs k = none → valV kvs k = none)
  | [], _, _, r => by cases r; exact ⟨fun d e => by simp [lookK] at e, fun _ => rfl⟩
  | (n, v) :: kvs, _, _, r => by
    cases r with
    | cons h r =>
      have ih := val_owns (k := k) r
      by_cases q : n = k
      · refine ⟨fun d e => ⟨v, _, ?_, ?_, fun b hb => List.mem_append_left _ hb⟩, fun e => ?_⟩
        · simp [valV, q]
        · simp only [List.map_cons, lookK, if_pos q] at e; cases e; exact h
        · simp only [List.map_cons, lookK, if_pos q] at e; cases e
      · have e1 : valV ((n, v) :: kvs) k = valV kvs k := by simp [valV, q]
        refine ⟨fun d e => ?_, fun e => ?_⟩
        · simp only [List.map_cons, lookK, if_neg q] at e
          obtain ⟨u, S, h1, h2, h3⟩ := ih.1 d e
          rw [e1]; exact ⟨u, S, h1, h2, fun b hb => List.mem_append_right _ (h3 b hb)⟩
        · simp only [List.map_cons, lookK, if_neg q] at e
          rw [e1]; exact ih.2 e
theorem atI_map {α : Type} {xs : List α} {i : Int} {d : α} (h : atI xs i = some d) : ∃ j : Nat, xs[j]? = some d ∧ ∀ {β : Type} {ys : List β} {y : β}, ys.length = xs.length → ys[j]? = some y → atI ys i = some y := by
  unfold atI at h
  cases e : ixN xs.length i with
  | none => rw [e] at h; cases h
  | some j =>
    rw [e] at h
    refine ⟨j, h, fun {β ys y} hl hy => ?_⟩
    unfold atI
    rw [hl, e]
    exact hy
theorem Reps.at {κ : Kx} {F : Hp} {vs : List V} {ds : List D} {i : Int} {d : D} (r : Reps κ F vs ds) (h : atI ds i = some d) : ∃ v, atI vs i = some v ∧ Rep κ F v d := by
  obtain ⟨j, h1, h2⟩ := atI_map h
  obtain ⟨v, h3, h4⟩ := r.get j h1
  exact ⟨v, h2 r.length h3, h4⟩

def isDict : O → Bool
  | .fd (.ct (.dk _ _)) | .fd (.sh (.dk _ _)) | .fd (.ct (.dt _ _)) | .fd (.sh (.dt _ _)) | .rc (.dk _) _ => true
  | _ => false
/-- what a dict holds: by the denotation -/
theorem dget_of {κ : Kx} {A : Fp} {F H : Hp} {ρ : Env} {σ : L2.St} {τ : List O} {υ : List V} (g : G κ A F H ρ σ τ υ) {z : Option Nat} {o : O} {v : V} {B : List Addr} (w : Own κ F H o v B) (sr : Src ρ A z B) {y : V} {k : D} (ry : Rep κ H y k) (hd : isDict o = true)
    {x : Option Nat × O} (e : itemOf (z, o) k = some x) : ∃ a u S, v = .ref a ∧ DGet H a y (some u) ∧ Own κ F H x.2 u S ∧ Src ρ A x.1 S := by
  unfold isDict at hd
  split at hd
  · rename_i ks vs
    cases w with
    | fd w =>
      cases w with
      | @ct c a q =>
        obtain ⟨kvs, h1, rfl, r⟩ := q
        simp only [itemOf] at e
        split at e
        · rename_i k' ek
          split at e
          · rename_i d ed
            cases e
            obtain ⟨u, h2, h3⟩ := (val_reps r).1 d ed
            exact ⟨a, u, [], rfl, .inl ⟨kvs, k', .inl h1, key_v ry ek, h2.symm⟩, .fd (.sh h3), Src.sh⟩
          · cases e
        · cases e
  · rename_i ks vs
    obtain ⟨a, kvs, rfl, h1, rfl, r⟩ := w.sh_v.dk_v
    simp only [itemOf] at e
    split at e
    · rename_i k' ek
      split at e
      · rename_i d ed
        cases e
        obtain ⟨u, h2, h3⟩ := (val_reps r).1 d ed
        exact ⟨a, u, [], rfl, .inl ⟨kvs, k', .inl (g.fh _ _ h1), key_v ry ek, h2.symm⟩, .fd (.sh h3), Src.sh⟩
      · cases e
    · cases e
  · rename_i ks vs
    cases w with
    | fd w =>
      cases w with
      | @ct c a q =>
        obtain ⟨kvs, h1, rfl, r⟩ := q
        cases k <;> simp only [itemOf] at e
        case tup kd =>
          split at e
          · rename_i k' ek
            split at e
            · rename_i d ed
              cases e
              obtain ⟨u, h2, h3⟩ := (val_reps r).1 d ed
              obtain ⟨b, bs, rfl, h4, h5⟩ := ry.tup_v
              have h6 := keys_v h5 ek
              exact ⟨a, u, [], rfl, .inr ⟨kvs, k', b, .inl h1, rfl, by rw [h4, h6], h2.symm⟩, .fd (.sh h3), Src.sh⟩
            · cases e
          · cases e
        all_goals cases e
  · rename_i ks vs
    obtain ⟨a, kvs, rfl, h1, rfl, r⟩ := w.sh_v.dt_v
    cases k <;> simp only [itemOf] at e
    case tup kd =>
      split at e
      · rename_i k' ek
        split at e
        · rename_i d ed
          cases e
          obtain ⟨u, h2, h3⟩ := (val_reps r).1 d ed
          obtain ⟨b, bs, rfl, h4, h5⟩ := ry.tup_v
          have h6 := keys_v h5 ek
          exact ⟨a, u, [], rfl, .inr ⟨kvs, k', b, .inl (g.fh _ _ h1), rfl, by rw [h4, h6], h2.symm⟩, .fd (.sh h3), Src.sh⟩
        · cases e
      · cases e
    all_goals cases e
  · rename_i ks fs
    obtain ⟨a, kvs, T, rfl, h1, rfl, ws, hB⟩ := w.dk_v
    simp only [itemOf] at e
    split at e
    · rename_i k' ek
      split at e
      · rename_i d ed
        cases e
        obtain ⟨u, S, h2, h3, h4⟩ := (val_owns ws).1 _ ed
        exact ⟨a, u, [], rfl, .inl ⟨kvs, k', .inl h1, key_v ry ek, h2.symm⟩, .fd (.sh h3.sh_v), Src.sh⟩
      · rename_i c ed
        cases e
        obtain ⟨u, S, h2, h3, h4⟩ := (val_owns ws).1 _ ed
        exact ⟨a, u, S, rfl, .inl ⟨kvs, k', .inl h1, key_v ry ek, h2.symm⟩, .fd h3, sr.sub fun b hb => by rw [hB]; exact List.mem_cons_of_mem _ (h4 b hb)⟩
      · cases e
    · cases e
  · cases hd
/-- an item of a row, a sign of a text -/
theorem item_of {κ : Kx} {A : Fp} {F H : Hp} {ρ : Env} {σ : L2.St} {τ : List O} {υ : List V} (g : G κ A F H ρ σ τ υ) {z : Option Nat} {o : O} {v : V} {B : List Addr} (w : Own κ F H o v B) {y : V} {k : D} (ry : Rep κ H y k) (hd : isDict o = false)
    {x : Option Nat × O} (e : itemOf (z, o) k = some x) {Q : VK} (q : ∀ u S, Own κ F H x.2 u S → Src ρ A x.1 S → Q u H) : rIx κ.K v y H Q := by
  unfold itemOf at e
  split at e
  · rename_i xs i e1
    split at e
    · rename_i d ed
      cases e
      obtain ⟨a, vs, rfl, h1, r⟩ := w.lst_v (by cases e1; rfl) g.fh
      obtain ⟨u, h2, h3⟩ := r.at ed
      exact .inl ⟨a, vs, i, u, rfl, ry.int_v, SqL.of h1, h2, q u [] (.fd (.sh h3)) Src.sh⟩
    · cases e
  · rename_i xs i e1
    split at e
    · rename_i d ed
      cases e
      obtain ⟨a, vs, rfl, h1, r⟩ := w.lst_v (by cases e1; rfl) g.fh
      obtain ⟨u, h2, h3⟩ := r.at ed
      exact .inl ⟨a, vs, i, u, rfl, ry.int_v, SqL.of h1, h2, q u [] (.fd (.sh h3)) Src.sh⟩
    · cases e
  · rename_i xs i e1
    split at e
    · rename_i d ed
      cases e
      obtain ⟨a, vs, rfl, h1, r⟩ := w.tup_v (by cases e1; rfl)
      obtain ⟨u, h2, h3⟩ := r.at ed
      exact .inr (.inl ⟨a, vs, i, u, rfl, ry.int_v, SqT.of (g.fh _ _ h1), h2, q u [] (.fd (.sh h3)) Src.sh⟩)
    · cases e
  · rename_i zz i e1
    split at e
    · rename_i hl
      split at e
      · rename_i c ec
        cases e
        exact .inr (.inr ⟨zz, i, c, w.str_v (by cases e1; rfl) g.fh, ry.int_v, lim_eq ▸ hl, ec, q _ [] (.fd (.sh (.str _))) Src.sh⟩)
      · cases e
    · cases e
  all_goals first
    | (rename_i e1; cases e1; cases hd)
    | cases e
theorem borrow_stay {κ : Kx} {ρ1 ρ2 : Env} {A1 A2 : Fp} {F1 F2 H1 H2 : Hp} {pb : Bool} {z : Option Nat} {o : O} {v : V} {B : List Addr} (hc : (pb || isSh o) = true) (w : Own κ F1 H1 o v B) (sr : Src ρ1 A1 z B) (s : Stp pb ρ1 A1 F1 H1 ρ2 A2 F2 H2) : ∃ B', Own κ F2 H2 o v B' ∧ Src ρ2 A2 z B' := by
  rcases Bool.or_eq_true_iff.mp hc with q | q
  · exact ⟨B, w.mono s.fr.grow fun b _ o e => (s.pu q).1 b o e, Src.stay w sr s q⟩
  · obtain ⟨d, rfl, r⟩ := isSh_v q w
    exact ⟨[], .fd (.sh (r.mono s.fr.grow)), Src.sh⟩
def mSub (pb : Bool) (ma : M (Option Nat × O)) (mb : M D) : M (Option Nat × O) := mBind ma fun x => if pb || isSh x.2 then mBind mb fun k => match itemOf x k with
  | some y => mPure y
  | none => fun _ => .bad
  else fun _ => .bad
section
variable {X : Cx} {W : WX'} {a b : Expr} {pa pb : Bool} {ma : M (Option Nat × O)} {mb : M D} {pos : Pos}
theorem tSub_of {κ : Kx} {r : R2} (P : O → Prop) {σ : L2.St} {H : Hp} {Q : VK}
    (hr : ∀ (A : Fp) (F H : Hp) (ρ : Env) (σ : L2.St) (τ : List O) (υ : List V), G κ A F H ρ σ τ υ → ∀ (z : Option Nat) (o : O) (v : V) (B : List Addr), Own κ F H o v B → Src ρ A z B → P o → ∀ (y : V) (k : D), Rep κ H y k → ∀ x, itemOf (z, o) k = some x → ∀ Q : VK, (∀ u S, Own κ F H x.2 u S → Src ρ A x.1 S → Q u H) → r v y H Q)
    {A : Fp} {F : Hp} {ρ : Env} {τ : List O} {υ : List V} (g : G κ A F H ρ σ τ υ) (hP : ∀ x ρ1, ma ρ = .ok x ρ1 → P x.2)
    (h : Wp κ W A F H σ τ υ (mSub pb ma mb ρ) fun r ρ' => ∀ v B A' F' H', Stp (pa && pb) ρ A F H ρ' A' F' H' → G κ A' F' H' ρ' σ τ υ → Own κ F' H' r.2 v B → Src ρ' A' r.1 B → Q v H') : tOp r (tB κ W pa ma) (tV κ W pb mb) σ H Q := by
  refine ⟨A, F, ρ, τ, υ, g, ?_⟩
  have h1 := h.bind
  cases e1 : ma ρ with
  | bad => rw [e1] at h1; exact h1.elim
  | exc d ρ1 => rw [e1] at h1; exact h1
  | ok x ρ1 =>
    rw [e1] at h1
    intro v1 B1 A1 F1 H1 f1 g1 w1 sr
    have h2 : Wp κ W A F H σ τ υ ((if pb || isSh x.2 then mBind mb fun k => match itemOf x k with
  | some y => mPure y
  | none => fun _ => .bad
  else fun _ => .bad) ρ1) _ := h1
    split at h2
    · rename_i hc
      refine ⟨A1, F1, ρ1, τ, υ, g1, (h2.step f1.fr).bind.imp fun k ρ2 h v2 A2 F2 H2 f2 g2 r2 => ?_⟩
      obtain ⟨B', w2, sr2⟩ := borrow_stay hc w1 sr f2
      cases e3 : itemOf x k with
      | none => rw [e3] at h; exact h.elim
      | some y =>
        rw [e3] at h
        exact hr A2 F2 H2 ρ2 σ τ υ g2 x.1 x.2 v1 B' w2 sr2 (hP x ρ1 e1) v2 k (r2.mono g2.fh) y e3 Q fun u S w3 s3 => h u S A2 F2 H2 (f1.trans f2) g2 w3 s3
    · exact h2.elim
/-- a[b], the row, the text or the dict looked at -/
theorem dB_sub (hu : X.A.units + 1 < cLine) (ha : PE X a (tB (kx X) W pa ma)) (hb : PE X b (tV (kx X) W pb mb)) (hs : PlainIx b) (hs' : NoSl b) : PE X (.Subscript a b pos) (tB (kx X) W (pa && pb) (mSub pb ma mb)) :=
  pe_imp (pe_either (pe_ix ix_seq ha hb hs) (pe_dget hu ha hb hs')) fun σ H Q ⟨A, F, ρ, τ, υ, g, h⟩ => by
    by_cases hd : ∀ x ρ1, ma ρ = .ok x ρ1 → isDict x.2 = false
    · exact .inl (tSub_of (fun o => isDict o = false) (fun A F H ρ σ τ υ g z o v B w sr hp y k ry x e Q q => item_of g w ry hp e q) g hd h)
    · have hd' : ∀ x ρ1, ma ρ = .ok x ρ1 → isDict x.2 = true := fun x ρ1 e => by
        cases q : isDict x.2 with
        | true => rfl
        | false => exact absurd (fun x' ρ' e' => by rw [e] at e'; cases e'; exact q) hd
      exact .inr (tSub_of (r := fun x y H Q => ∃ a v, x = .ref a ∧ DGet H a y (some v) ∧ Q v H) (fun o => isDict o = true) (fun A F H ρ σ τ υ g z o v B w sr hp y k ry x e Q q => by
        obtain ⟨a, u, S, h1, h2, h3, h4⟩ := dget_of g w sr ry hp e
        exact ⟨a, u, h1, h2, q u S h3 h4⟩) g hd' h)
end

def mAndT (m n : M Bool) : M Bool := mBind m fun b => if b then n else mPure false
def mOrT (m n : M Bool) : M Bool := mBind m fun b => if b then mPure true else n
section
variable {X : Cx} {κ : Kx} {W : WX'} {a b c : Expr} {rest : List Expr} {p q : Bool} {pos : Pos} {m n : M Bool}
theorem dT_not (h : PT X a (tT κ W p m)) : PT X (.UnaryOp .Not a pos) (tT κ W p (mMap (!·) m)) := pt_imp (pt_not h) fun σ H Q ⟨A, F, ρ, τ, υ, g, h⟩ =>
  ⟨A, F, ρ, τ, υ, g, h.map.imp fun b ρ' h A' F' H' s g' => h A' F' H' s g'⟩
theorem dT_and1 (h : PT X a (tT κ W p m)) : PW X (.BoolOp .And [a] pos) (tT κ W p m) := pw_and1 h
theorem dT_or1 (h : PT X a (tT κ W p m)) : PW X (.BoolOp .Or [a] pos) (tT κ W p m) := pw_or1 h
theorem pw_imp {e : Expr} {t t' : TT} (h : PW X e t) (i : ∀ σ H Q, t' σ H Q → t σ H Q) : PW X e t' := ⟨fun wh pins s σ H Q I q => h.run wh pins s σ H Q I (i σ H Q q)⟩
theorem dT_and (h1 : PT X a (tT κ W p m)) (h2 : PW X (.BoolOp .And (b :: rest) pos) (tT κ W q n)) : PW X (.BoolOp .And (a :: b :: rest) pos) (tT κ W (p && q) (mAndT m n)) :=
  pw_imp (pw_and h1 h2) fun σ H Q ⟨A, F, ρ, τ, υ, g, h⟩ => ⟨A, F, ρ, τ, υ, g, h.bind.imp fun c ρ1 h A1 F1 H1 s1 g1 => by
    cases c with
    | true => exact ⟨A1, F1, ρ1, τ, υ, g1, (h.step s1.fr).imp fun r ρ2 h A2 F2 H2 s2 g2 => h A2 F2 H2 (s1.trans s2) g2⟩
    | false => exact h A1 F1 H1 (s1.imp fun z => (Bool.and_eq_true_iff.mp z).1) g1⟩
theorem dT_or (h1 : PT X a (tT κ W p m)) (h2 : PW X (.BoolOp .Or (b :: rest) pos) (tT κ W q n)) : PW X (.BoolOp .Or (a :: b :: rest) pos) (tT κ W (p && q) (mOrT m n)) :=
  pw_imp (pw_or h1 h2) fun σ H Q ⟨A, F, ρ, τ, υ, g, h⟩ => ⟨A, F, ρ, τ, υ, g, h.bind.imp fun c ρ1 h A1 F1 H1 s1 g1 => by
    cases c with
    | false => exact ⟨A1, F1, ρ1, τ, υ, g1, (h.step s1.fr).imp fun r ρ2 h A2 F2 H2 s2 g2 => h A2 F2 H2 (s1.trans s2) g2⟩
    | true => exact h A1 F1 H1 (s1.imp fun z => (Bool.and_eq_true_iff.mp z).1) g1⟩
def mBl (m : M O) : M Bool := mBind m fun o => match o with
  | .fd (.sh (.bl b)) => mPure b
  | _ => fun _ => .bad
theorem bl_top {A : Fp} {F H : Hp} {ρ : Env} {σ : L2.St} {τ : List O} {υ : List V} {b : Bool} {v : V} (g : G κ A F H ρ σ (τ ++ [.sh (.bl b)]) (υ ++ [v])) : v = .bl b ∧ ∃ A', G κ A' F H ρ σ τ υ ∧ Stp true ρ A F H ρ A' F H := by
  obtain ⟨g2, w, f2⟩ := g.pop
  exact ⟨w.sh_v.bl_v, _, g2, Stp.refl.then f2 (Same.refl _) fun i => upA_t i⟩
/-- a if t else b -/
def mIf {α : Type} (t : M Bool) (m n : M α) : M α := mBind t fun b => if b then m else n
theorem dE_if {pt : Bool} {t : M Bool} {m n : M O} (ht : PT X c (tT κ W pt t)) (ha : PE X a (tE κ W p m)) (hb : PE X b (tE κ W q n)) : PE X (.IfExp c a b pos) (tE κ W (pt && (p && q)) (mIf t m n)) :=
  pe_imp (pe_ifExp ht ha hb) fun σ H Q ⟨A, F, ρ, τ, υ, g, h⟩ => ⟨A, F, ρ, τ, υ, g, h.bind.imp fun c ρ1 h A1 F1 H1 s1 g1 => by
    cases c with
    | true => exact ⟨A1, F1, ρ1, τ, υ, g1, (h.step s1.fr).imp fun r ρ2 h v A2 F2 H2 s2 g2 => h v A2 F2 H2 ((s1.trans s2).imp fun z => by simp at z; simp [z]) g2⟩
    | false => exact ⟨A1, F1, ρ1, τ, υ, g1, (h.step s1.fr).imp fun r ρ2 h v A2 F2 H2 s2 g2 => h v A2 F2 H2 ((s1.trans s2).imp fun z => by simp at z; simp [z]) g2⟩⟩
/-- and, or, not as values: bools -/
def mAndV (m n : M D) : M D := mBind m fun d => match d with
  | .bl b => if b then n else mPure (.bl false)
  | _ => fun _ => .bad
def mOrV (m n : M D) : M D := mBind m fun d => match d with
  | .bl b => if b then mPure (.bl true) else n
  | _ => fun _ => .bad
theorem dV_one {op : BoolOp} {m : M D} (h : PE X a (tV κ W p m)) : PE X (.BoolOp op [a] pos) (tV κ W p m) := pe_one h
theorem dV_and {m n : M D} (h1 : PE X a (tV κ W p m)) (h2 : PE X (.BoolOp .And (b :: rest) pos) (tV κ W q n)) : PE X (.BoolOp .And (a :: b :: rest) pos) (tV κ W (p && q) (mAndV m n)) :=
  pe_imp (pe_and h1 h2) fun σ H Q ⟨A, F, ρ, τ, υ, g, h⟩ => ⟨A, F, ρ, τ, υ, g, h.bind.imp fun d ρ1 h v A1 F1 H1 s1 g1 r1 => by
    split at h
    · rename_i c
      refine ⟨c, r1.bl_v, ?_⟩
      cases c with
      | true => exact ⟨A1, F1, ρ1, τ, υ, g1, (h.step s1.fr).imp fun r ρ2 h v A2 F2 H2 s2 g2 => h v A2 F2 H2 (s1.trans s2) g2⟩
      | false => exact h _ A1 F1 H1 (s1.imp fun z => (Bool.and_eq_true_iff.mp z).1) g1 (.bl _)
    · exact h.elim⟩
end

def truD : D → Option Bool
  | .non => some false
  | .bl b => some b
  | .int i => some (i != 0)
  | .str x => if x.length ≤ lim then some ((x.length : Int) != 0) else none
  | .tup xs => some (!xs.isEmpty)
  | .lst xs => some (!xs.isEmpty)
  | .dk ks vs => some (!vs.isEmpty)
  | _ => none
theorem Reps.isEmpty {κ : Kx} {F : Hp} {vs : List V} {ds : List D} (r : Reps κ F vs ds) : vs.isEmpty = ds.isEmpty := by cases r <;> rfl
theorem tru_of {κ : Kx} {H : Hp} {v : V} {d : D} {k : Bool} (r : Rep κ H v d) (e : truD d = some k) : TruV κ.K v H k := by
  cases r with
  | non => cases e; rfl
  | bl b => cases e; rfl
  | int i => cases e; rfl
  | str x =>
    simp only [truD] at e
    split at e
    · rename_i hl
      cases e
      exact ⟨lim_eq ▸ hl, rfl⟩
    · cases e
  | tup h r =>
    simp only [truD] at e
    cases e
    exact .inr (.inl ⟨_, SqT.of h, by rw [r.isEmpty]⟩)
  | lst h r =>
    simp only [truD] at e
    cases e
    exact .inl ⟨_, SqL.of h, by rw [r.isEmpty]⟩
  | fz h r => cases e
  | dk h r =>
    simp only [truD] at e
    cases e
    refine .inr (.inr ⟨_, h, ?_⟩)
    rw [← r.isEmpty]
    simp
  | dt _ _ => cases e
  | ob _ _ _ => cases e
def mTru (m : M (Option Nat × O)) : M Bool := mBind m fun x => match truD x.2.toD with
  | some b => mPure b
  | none => fun _ => .bad
section
variable {X : Cx} {W : WX'} {e : Expr} {p : Bool} {pos : Pos} {m : M (Option Nat × O)}
/-- any value as a test -/
theorem dT_tru (h : PE X e (tB (kx X) W p m)) (he : ∀ whole, isTrue e X.env whole = (do let v ← whole; standAt e.pos; holding [v] (truthy v)) := by intro _; rfl) : PT X e (tT (kx X) W p (mTru m)) :=
  pt_imp (pt_truth h he) fun σ H Q ⟨A, F, ρ, τ, υ, g, h⟩ => ⟨A, F, ρ, τ, υ, g, h.bind.imp fun x ρ1 h v B A1 F1 H1 s1 g1 w _ => by
    cases q : truD x.2.toD with
    | none => rw [q] at h; exact h.elim
    | some b =>
      rw [q] at h
      exact ⟨b, tru_of (w.repH g1.fh) q, h A1 F1 H1 s1 g1⟩⟩
theorem dV_not (h : PE X e (tB (kx X) W p m)) : PE X (.UnaryOp .Not e pos) (tV (kx X) W p (mMap (fun b => .bl (!b)) (mTru m))) :=
  pe_imp (pe_notT h) fun σ H Q ⟨A, F, ρ, τ, υ, g, h⟩ => ⟨A, F, ρ, τ, υ, g, h.map.bind.imp fun x ρ1 h v B A1 F1 H1 s1 g1 w _ => by
    cases q : truD x.2.toD with
    | none => rw [q] at h; exact h.elim
    | some b =>
      rw [q] at h
      exact ⟨b, tru_of (w.repH g1.fh) q, h _ A1 F1 H1 s1 g1 (.bl _)⟩⟩
def mNeg (m : M D) : M D := mBind m fun d => match d with
  | .int i => mPure (.int (-i))
  | _ => fun _ => .bad
theorem dV_neg {κ : Kx} {m : M D} (h : PE X e (tV κ W p m)) : PE X (.UnaryOp .USub e pos) (tV κ W p (mNeg m)) :=
  pe_imp (pe_un un_neg h) fun σ H Q ⟨A, F, ρ, τ, υ, g, h⟩ => ⟨A, F, ρ, τ, υ, g, h.bind.imp fun d ρ1 h v A1 F1 H1 s1 g1 r => by
    split at h
    · exact ⟨_, r.int_v, h _ A1 F1 H1 s1 g1 (.int _)⟩
    · exact h.elim⟩
end
end DL

end

section
set_option Elab.async false
set_option linter.all false
set_option maxRecDepth 100000
namespace DL
open PySem L2

def cutL {α : Type} (xs : List α) (lo hi : Option Int) : List α := (xs.drop (HT.sIx xs.length 0 lo)).take (HT.sIx xs.length xs.length hi - HT.sIx xs.length 0 lo)
theorem Reps.cut {κ : Kx} {F : Hp} {vs : List V} {ds : List D} (r : Reps κ F vs ds) (lo hi : Option Int) : Reps κ F (cutV vs lo hi) (cutL ds lo hi) := by
  unfold cutV cutL
  rw [r.length]
  exact (r.drop _).take _
def sliceD (d : D) (lo hi : Option Int) : Option O := match d with
  | .lst xs => some (.lst (cutL xs lo hi))
  | .tup xs => some (.sh (.tup (cutL xs lo hi)))
  | .str z => if z.length ≤ lim then some (.sh (.str (cutS z lo hi))) else none
  | _ => none
def rSliceA (K : PySem.W.Frag) : V → Option Int → Option Int → Hp → VK → Prop := fun x lo hi H Q => rSlL K x lo hi H Q ∨ rSlA K x lo hi H Q ∨ rSlS x lo hi H Q
theorem sl_any {X : Cx} : SlR X (rSliceA X.K) := sl_list.or (sl_tupA.or sl_str)
theorem cut_whole {α : Type} {xs : List α} {lo hi : Option Int} (h : HT.sIx xs.length 0 lo = 0 ∧ HT.sIx xs.length xs.length hi = xs.length) : cutL xs lo hi = xs := by
  unfold cutL
  rw [h.1, h.2]
  simp
theorem slice_sem {κ : Kx} {A : Fp} {F H : Hp} {ρ : Env} {σ : L2.St} {τ : List O} {υ : List V} (g : G κ A F H ρ σ τ υ) {o : O} {v : V} {B : List Addr} (w : Own κ F H o v B) {lo hi : Option Int} {u : O} (e : sliceD o.toD lo hi = some u)
    {Q : VK} (q : ∀ v H', Fin κ A F H ρ σ τ υ u v H' → Q v H') : rSliceA κ.K v lo hi H Q := by
  unfold sliceD at e
  split at e
  · rename_i xs e1
    cases e
    obtain ⟨a, vs, rfl, h1, r⟩ := w.lst_v e1 g.fh
    exact .inl ⟨a, vs, rfl, SqL.of h1, fun p hp => q _ _ (fin_lst g hp (r.cut lo hi))⟩
  · rename_i xs e1
    cases e
    obtain ⟨a, vs, rfl, h1, r⟩ := w.tup_v e1
    refine .inr (.inl ⟨a, vs, rfl, SqT.of (g.fh _ _ h1), fun hw => ?_, fun _ p hp => q _ _ (fin_tup g hp (r.cut lo hi))⟩)
    rw [r.length] at hw
    refine q (.ref a) H ?_
    rw [cut_whole hw]
    exact fin_sh g (.tup h1 r)
  · rename_i z e1
    split at e
    · rename_i hl
      cases e
      exact .inr (.inr ⟨z, w.str_v e1 g.fh, lim_eq ▸ hl, q _ _ (fin_sh g (.str _))⟩)
    · cases e
  · cases e
/-- a part of a slice -/
def tI (κ : Kx) (W : WX') (p : Bool) (m : M (Option Int)) : TO := fun σ H Q => ∃ A F ρ τ υ, G κ A F H ρ σ τ υ ∧ Wp κ W A F H σ τ υ (m ρ) fun i ρ' => ∀ A' F' H', Stp p ρ A F H ρ' A' F' H' → G κ A' F' H' ρ' σ τ υ → Q i H'
def mPart (m : M D) : M (Option Int) := mBind m fun d => match d with
  | .int i => mPure (some i)
  | _ => fun _ => .bad
def mSlice (pl ph : Bool) (ma : M (Option Nat × O)) (ml mh : M (Option Int)) : M O := mBind ma fun x => if (pl && ph) || isSh x.2 then mBind ml fun lo => mBind mh fun hi => match sliceD x.2.toD lo hi with
  | some o => mPure o
  | none => fun _ => .bad
  else fun _ => .bad
section
variable {X : Cx} {W : WX'} {e : Expr} {lo hi : Option Expr} {p pl ph : Bool} {pos p2 : Pos}
theorem po_imp {e : Option Expr} {t t' : TO} (h : PO X e t) (i : ∀ σ H Q, t' σ H Q → t σ H Q) : PO X e t' := by
  obtain ⟨r⟩ := h
  exact ⟨by
    intro pins s σ H Q I q
    exact r pins s σ H Q I (i σ H Q q)⟩
theorem dI_none {κ : Kx} : PO X none (tI κ W true (mPure none)) := po_imp po_none fun σ H Q ⟨A, F, ρ, τ, υ, g, h⟩ => h A F H .refl g
theorem dI_some {κ : Kx} {m : M D} (h : PE X e (tV κ W p m)) : PO X (some e) (tI κ W p (mPart m)) := po_imp (po_some h) fun σ H Q ⟨A, F, ρ, τ, υ, g, h⟩ => ⟨A, F, ρ, τ, υ, g, h.bind.imp fun d ρ' h v A' F' H' s g' r => by
  split at h
  · exact ⟨_, r.int_v, h A' F' H' s g'⟩
  · exact h.elim⟩
theorem dE_slice {ma : M (Option Nat × O)} {ml mh : M (Option Int)} (ha : PE X e (tB (kx X) W p ma)) (hl : PO X lo (tI (kx X) W pl ml)) (hh : PO X hi (tI (kx X) W ph mh)) : PE X (.Subscript e (.Slice lo hi none p2) pos) (tE (kx X) W (p && (pl && ph)) (mSlice pl ph ma ml mh)) :=
  pe_imp (pe_slice sl_any ha hl hh) fun σ H Q ⟨A, F, ρ, τ, υ, g, h⟩ => ⟨A, F, ρ, τ, υ, g, h.bind.imp fun x ρ1 h v B A1 F1 H1 s1 g1 w sr => by
    split at h
    · rename_i hc
      refine ⟨A1, F1, ρ1, τ, υ, g1, (h.step s1.fr).bind.imp fun lo ρ2 h A2 F2 H2 s2 g2 => ?_⟩
      refine ⟨A2, F2, ρ2, τ, υ, g2, (h.step s2.fr).bind.imp fun hi ρ3 h A3 F3 H3 s3 g3 => ?_⟩
      obtain ⟨B', w3, _⟩ := borrow_stay hc w sr (s2.trans s3)
      cases e3 : sliceD x.2.toD lo hi with
      | none => rw [e3] at h; exact h.elim
      | some o =>
        rw [e3] at h
        exact slice_sem g3 w3 e3 fun v H4 ⟨A4, F4, s4, g4⟩ => h v A4 F4 H4 (((s1.trans (s2.trans s3)).trans s4).imp fun z => by rw [z]; rfl) g4
    · exact h.elim⟩
end

def CallOp (κ : Kx) (r : List V → Hp → VK → Prop) (f : List D → Option O) : Prop := ∀ (A : Fp) (F H : Hp) (ρ : Env) (σ : L2.St) (τ : List O) (υ : List V), G κ A F H ρ σ τ υ → ∀ rs vs, OwnL κ ρ A F H rs vs →
  ∀ o, f (rs.map fun x => x.2.toD) = some o → ∀ Q : VK, (∀ v H', Fin κ A F H ρ σ τ υ o v H' → Q v H') → r vs H Q
def mCall (f : List D → Option O) (ms : M (List (Option Nat × O))) : M O := mBind ms fun rs => match f (rs.map fun x => x.2.toD) with
  | some o => mPure o
  | none => fun _ => .bad
section
variable {X : Cx} {κ : Kx} {W : WX'} {e : Expr} {es : List Expr} {p : Bool} {ps pos : Pos} {x : Str} {r : List V → Hp → VK → Prop} {f : List D → Option O} {ms : M (List (Option Nat × O))}
theorem call_of (hs : CallOp κ r f) {σ : L2.St} {H : Hp} {Q : VK} (h : tE κ W p (mCall f ms) σ H Q) : tCB r (tBs κ W p ms) σ H Q := by
  obtain ⟨A, F, ρ, τ, υ, g, h⟩ := h
  refine ⟨A, F, ρ, τ, υ, g, h.bind.imp fun rs ρ1 h vs A1 F1 H1 s1 g1 w => ?_⟩
  cases e : f (rs.map fun x => x.2.toD) with
  | none => rw [e] at h; exact h.elim
  | some o =>
    rw [e] at h
    exact hs A1 F1 H1 ρ1 σ τ υ g1 rs vs w o e Q fun v H2 ⟨A2, F2, s2, g2⟩ => h v A2 F2 H2 ((s1.trans s2).imp fun z => by rw [z]; rfl) g2
theorem dE_callB {id : String} (hc : CallR X (.builtin id) r) (hs : CallOp κ r f) (hg : Gl X x) (hm : X.mg x = none) (hv : bootBuiltins x = some (.builtin id)) (ha : PA X (e :: es) (tBs κ W p ms)) (hn : x ≠ "__name__") (hdb : (x == ("__debug__" : Str)) = false)
    (he : starEach (e :: es) X.env = (false, eval e X.env) :: starEach es X.env := by rfl) (hpl : (backTo pos (starEach es X.env)).any (·.1) = false := by rfl) : PE X (.Call (.Name x ps) (e :: es) [] pos) (tE κ W p (mCall f ms)) :=
  pe_imp (pe_callB hc hg hm hv ha hn hdb he hpl) fun _ _ _ h => call_of hs h
theorem dE_callT {T : String} (hc : CallR X (.type T) r) (hs : CallOp κ r f) (hg : Gl X x) (hm : X.mg x = none) (hv : bootBuiltins x = some (.type T)) (ha : PA X (e :: es) (tBs κ W p ms)) (hn : x ≠ "__name__") (hdb : (x == ("__debug__" : Str)) = false)
    (he : starEach (e :: es) X.env = (false, eval e X.env) :: starEach es X.env := by rfl) (hpl : (backTo pos (starEach es X.env)).any (·.1) = false := by rfl) : PE X (.Call (.Name x ps) (e :: es) [] pos) (tE κ W p (mCall f ms)) :=
  pe_imp (pe_callTy hc hg hm hv ha hn hdb he hpl) fun _ _ _ h => call_of hs h
end
theorem OwnL.one {κ : Kx} {ρ : Env} {A : Fp} {F H : Hp} {rs : List (Option Nat × O)} {vs : List V} {d : D} (w : OwnL κ ρ A F H rs vs) (e : rs.map (fun x => x.2.toD) = [d]) : ∃ o v B, vs = [v] ∧ Own κ F H o v B ∧ o.toD = d := by
  cases w with
  | nil => cases e
  | cons w _ t =>
    cases t with
    | nil =>
      simp only [List.map_cons, List.map_nil, List.cons.injEq] at e
      exact ⟨_, _, _, rfl, w, e.1⟩
    | cons _ _ _ => simp at e
theorem OwnL.two {κ : Kx} {ρ : Env} {A : Fp} {F H : Hp} {rs : List (Option Nat × O)} {vs : List V} {d d' : D} (w : OwnL κ ρ A F H rs vs) (e : rs.map (fun x => x.2.toD) = [d, d']) :
    ∃ o v B o' v' B', vs = [v, v'] ∧ Own κ F H o v B ∧ o.toD = d ∧ Own κ F H o' v' B' ∧ o'.toD = d' := by
  cases w with
  | nil => cases e
  | cons w _ t =>
    simp only [List.map_cons, List.cons.injEq] at e
    obtain ⟨o', v', B', rfl, w', e'⟩ := t.one e.2
    exact ⟨_, _, _, o', v', B', rfl, w, e.1, w', e'⟩
/-- one argument -/
def Call1 (κ : Kx) (r : List V → Hp → VK → Prop) (f : D → Option O) : Prop := ∀ (A : Fp) (F H : Hp) (ρ : Env) (σ : L2.St) (τ : List O) (υ : List V), G κ A F H ρ σ τ υ → ∀ o v B, Own κ F H o v B →
  ∀ u, f o.toD = some u → ∀ Q : VK, (∀ v H', Fin κ A F H ρ σ τ υ u v H' → Q v H') → r [v] H Q
def f1 (f : D → Option O) : List D → Option O
  | [d] => f d
  | _ => none
theorem Call1.op {κ : Kx} {r : List V → Hp → VK → Prop} {f : D → Option O} (h : Call1 κ r f) : CallOp κ r (f1 f) := by
  intro A F H ρ σ τ υ g rs vs w o e Q q
  unfold f1 at e
  split at e
  · rename_i d e1
    obtain ⟨o', v, B, rfl, w', rfl⟩ := w.one e1
    exact h A F H ρ σ τ υ g o' v B w' o e Q q
  · cases e
def Call2 (κ : Kx) (r : List V → Hp → VK → Prop) (f : D → D → Option O) : Prop := ∀ (A : Fp) (F H : Hp) (ρ : Env) (σ : L2.St) (τ : List O) (υ : List V), G κ A F H ρ σ τ υ → ∀ o v B, Own κ F H o v B → ∀ o' v' B', Own κ F H o' v' B' →
  ∀ u, f o.toD o'.toD = some u → ∀ Q : VK, (∀ v H', Fin κ A F H ρ σ τ υ u v H' → Q v H') → r [v, v'] H Q
def f2 (f : D → D → Option O) : List D → Option O
  | [d, d'] => f d d'
  | _ => none
theorem Call2.op {κ : Kx} {r : List V → Hp → VK → Prop} {f : D → D → Option O} (h : Call2 κ r f) : CallOp κ r (f2 f) := by
  intro A F H ρ σ τ υ g rs vs w o e Q q
  unfold f2 at e
  split at e
  · rename_i d d' e1
    obtain ⟨o1, v, B, o2, v', B', rfl, w1, rfl, w2, rfl⟩ := w.two e1
    exact h A F H ρ σ τ υ g o1 v B w1 o2 v' B' w2 o e Q q
  · cases e
def orF (f f' : List D → Option O) (ds : List D) : Option O := match f ds with
  | some o => some o
  | none => f' ds
theorem CallOp.or {κ : Kx} {r r' : List V → Hp → VK → Prop} {f f' : List D → Option O} (h : CallOp κ r f) (h' : CallOp κ r' f') :
    CallOp κ (fun vs H Q => r vs H Q ∨ r' vs H Q) (orF f f') := by
  intro A F H ρ σ τ υ g rs vs w o e Q q
  unfold orF at e
  cases e1 : f (rs.map fun x => x.2.toD) with
  | some u =>
    rw [e1] at e
    cases e
    exact .inl (h A F H ρ σ τ υ g rs vs w _ e1 Q q)
  | none =>
    rw [e1] at e
    exact .inr (h' A F H ρ σ τ υ g rs vs w o e Q q)

def lenD : D → Option O
  | .str x => if x.length ≤ lim then some (.sh (.int x.length)) else none
  | .tup xs => some (.sh (.int xs.length))
  | .lst xs => some (.sh (.int xs.length))
  | .dk _ vs => some (.sh (.int vs.length))
  | .dt _ vs => some (.sh (.int vs.length))
  | _ => none
def rLenA (K : PySem.W.Frag) : List V → Hp → VK → Prop := fun xs H Q => (∃ x n, xs = [x] ∧ LenV K x H n ∧ Q (.int n) H) ∨ (∃ a kvs, xs = [V.ref a] ∧ H a = some (.dK kvs) ∧ Q (.int kvs.length) H) ∨ rLenT xs H Q
theorem call_lenA {X : Cx} : CallR X (.builtin "len") (rLenA X.K) := call_len.or (call_lenD.or call_len_dT)
theorem len_sem {κ : Kx} : Call1 κ (rLenA κ.K) lenD := by
  intro A F H ρ σ τ υ g o v B w u e Q q
  have r := w.repH g.fh
  unfold lenD at e
  split at e
  · rename_i x ex
    split at e
    · rename_i hl
      cases e
      rw [ex] at r
      exact .inl ⟨v, x.length, rfl, by rw [r.str_v]; exact ⟨lim_eq ▸ hl, rfl⟩, q _ _ (fin_sh g (.int _))⟩
    · cases e
  · rename_i xs ex
    cases e
    rw [ex] at r
    obtain ⟨a, vs, rfl, h1, h2⟩ := r.tup_v
    refine .inl ⟨_, vs.length, rfl, .inr ⟨vs, SqT.of h1, rfl⟩, ?_⟩
    rw [h2.length]
    exact q _ _ (fin_sh g (.int _))
  · rename_i xs ex
    cases e
    rw [ex] at r
    obtain ⟨a, vs, rfl, h1, h2⟩ := r.lst_v
    refine .inl ⟨_, vs.length, rfl, .inl ⟨vs, SqL.of h1, rfl⟩, ?_⟩
    rw [h2.length]
    exact q _ _ (fin_sh g (.int _))
  · rename_i ks xs ex
    cases e
    rw [ex] at r
    obtain ⟨a, kvs, rfl, h1, _, h2⟩ := r.dk_v
    have hl := h2.length
    rw [List.length_map] at hl
    refine .inr (.inl ⟨a, kvs, rfl, h1, ?_⟩)
    rw [hl]
    exact q _ _ (fin_sh g (.int _))
  · rename_i ks xs ex
    cases e
    rw [ex] at r
    obtain ⟨a, kvs, rfl, h1, _, h2⟩ := r.dt_v
    have hl := h2.length
    rw [List.length_map] at hl
    refine .inr (.inr ⟨a, kvs, rfl, h1, ?_⟩)
    rw [hl]
    exact q _ _ (fin_sh g (.int _))
  · cases e

def absD : D → Option O
  | .int i => some (.sh (.int (if i < 0 then -i else i)))
  | _ => none
def intD : D → Option O
  | .int i => some (.sh (.int i))
  | .bl k => some (.sh (.int (if k then 1 else 0)))
  | _ => none
theorem int_sem {κ : Kx} : Call1 κ (fun xs H Q => (∃ i, xs = [.int i] ∧ Q (.int i) H) ∨ ∃ k, xs = [.bl k] ∧ Q (.int (if k then 1 else 0)) H) intD := by
  intro A F H ρ σ τ υ g o v B w u e Q q
  unfold intD at e
  split at e
  · rename_i i ex
    cases e
    exact .inl ⟨i, by rw [w.int_v ex g.fh], q _ _ (fin_sh g (.int _))⟩
  · rename_i i ex
    cases e
    exact .inr ⟨i, by rw [w.bl_v ex g.fh], q _ _ (fin_sh g (.int _))⟩
  · cases e
def tupleD : D → Option O
  | .lst xs => some (.sh (.tup xs))
  | .tup xs => some (.sh (.tup xs))
  | _ => none
def rTupA (K : PySem.W.Frag) : List V → Hp → VK → Prop := fun xs H Q => ∃ p ys, xs = [.ref p] ∧ ((SqL K H p ys ∧ ∀ l, H l = none → Q (.ref l) (upd H l (.tup ys))) ∨ (SqT K H p ys ∧ Q (.ref p) H))
theorem tuple_sem {κ : Kx} : Call1 κ (rTupA κ.K) tupleD := by
  intro A F H ρ σ τ υ g o v B w u e Q q
  unfold tupleD at e
  split at e
  · rename_i xs ex
    cases e
    obtain ⟨a, vs, rfl, h1, h2⟩ := w.lst_v ex g.fh
    exact ⟨a, vs, rfl, .inl ⟨SqL.of h1, fun l hl => q _ _ (fin_tup g hl h2)⟩⟩
  · rename_i xs ex
    cases e
    obtain ⟨a, vs, rfl, h1, h2⟩ := w.tup_v ex
    exact ⟨a, vs, rfl, .inr ⟨SqT.of (g.fh _ _ h1), q _ _ (fin_sh g (.tup h1 h2))⟩⟩
  · cases e
def listD : D → Option O
  | .lst xs => some (.lst xs)
  | .fz xs => some (.lst xs)
  | .tup xs => some (.lst xs)
  | _ => none
def rListA (K : PySem.W.Frag) : List V → Hp → VK → Prop := fun xs H Q => ∃ p ys, xs = [.ref p] ∧ (SqL K H p ys ∨ SqT K H p ys) ∧ ∀ l, H l = none → Q (.ref l) (upd H l (.lst ys))
theorem list_sem {κ : Kx} : Call1 κ (rListA κ.K) listD := by
  intro A F H ρ σ τ υ g o v B w u e Q q
  unfold listD at e
  split at e
  · rename_i xs ex
    cases e
    obtain ⟨a, vs, rfl, h1, h2⟩ := w.lst_v ex g.fh
    exact ⟨a, vs, rfl, .inl (SqL.of h1), fun l hl => q _ _ (fin_lst g hl h2)⟩
  · rename_i xs ex
    cases e
    obtain ⟨a, vs, rfl, h1, r'⟩ := w.fz_v ex
    exact ⟨a, vs, rfl, .inl (g.fh.seq h1), fun l hl => q _ _ (fin_lst g hl r')⟩
  · rename_i xs ex
    cases e
    obtain ⟨a, vs, rfl, h1, h2⟩ := w.tup_v ex
    exact ⟨a, vs, rfl, .inr (SqT.of (g.fh _ _ h1)), fun l hl => q _ _ (fin_lst g hl h2)⟩
  · cases e

def blsD : List D → Option (List Bool)
  | [] => some []
  | .bl b :: ds => match blsD ds with
    | some bs => some (b :: bs)
    | none => none
  | _ => none
theorem bls_v {κ : Kx} {F : Hp} : ∀ {vs : List V} {ds : List D} {is : List Bool}, Reps κ F vs ds → blsD ds = some is → vs = is.map V.bl
  | _, _, _, .nil, e => by simp only [blsD] at e; cases e; rfl
  | _, _, _, .cons h r, e => by
    unfold blsD at e
    split at e
    · rename_i e1; cases e1
    · rename_i i ds e1
      cases e1
      split at e
      · rename_i is e2
        cases e
        rw [h.bl_v, bls_v r e2]
        rfl
      · cases e
    · cases e
def allD : D → Option O
  | .lst ds => match blsD ds with
    | some bs => some (.sh (.bl (bs.all id)))
    | none => none
  | _ => none
theorem all_sem {κ : Kx} : Call1 κ (rAll κ.K) allD := by
  intro A F H ρ σ τ υ g o v B w u e Q q
  unfold allD at e
  split at e
  · rename_i ds ex
    split at e
    · rename_i is ei
      cases e
      obtain ⟨a, vs, rfl, h1, h2⟩ := w.lst_v ex g.fh
      rw [bls_v h2 ei] at h1
      exact ⟨a, is, rfl, SqL.of h1, q _ _ (fin_sh g (.bl _))⟩
    · cases e
  · cases e
end DL

end

section
set_option Elab.async false
set_option linter.all false
set_option maxRecDepth 100000
namespace DL
open PySem L2 RZ

section
variable {κ : Kx} {A A' : Fp} {F F' H H' : Hp} {ρ ρ' : Env} {σ σ' : L2.St} {τ τ' : List O} {υ υ' : List V}
/-- what stands at a place changes -/
theorem G.write {x : Ix} {o' : O} {v : V} {S : List Addr} (g : G κ A F H ρ σ τ υ) (len : ρ'.length = ρ.length) (lent : τ'.length = τ.length)
    (hx : ∀ o, atO ρ' τ' x = some o → o = o') (hy : ∀ y o, y ≠ x → atO ρ' τ' y = some o → atO ρ τ y = some o) (hv : atV σ υ x = some v) (w : Own κ F H' o' v S) (nd : S.Nodup)
    (hS : ∀ b ∈ S, b ∈ A x ∨ (∀ y, b ∉ A y) ∧ F b = none) (hH : ∀ b o, H b = some o → b ∉ A x → H' b = some o) : G κ (upA A x S) F H' ρ' σ τ' υ := by
  refine ⟨len.trans g.len, lent.trans g.lent, fun y u e => ?_, fun y => ?_, fun y z b n h1 h2 => ?_, fun y b hb => ?_, fun y b hb => ?_, fun b u e => ?_, g.tabs (Same.refl _) (fun b e => .inl e) (fun b o e n => hH b o e (n x)) fun b u e => .inl (g.fh b u e)⟩
  · by_cases z : y = x
    · subst z
      rw [hx u e, upA_same]
      exact ⟨v, hv, w⟩
    · obtain ⟨v', h1, h2⟩ := g.own y u (hy y u z e)
      refine ⟨v', h1, ?_⟩
      rw [upA_ne z]
      exact h2.mono (Same.refl _) fun b hb o e => hH b o e (g.dj y x b z hb)
  · by_cases z : y = x
    · subst z; rw [upA_same]; exact nd
    · rw [upA_ne z]; exact g.nd y
  · by_cases a : y = x
    · subst a
      rw [upA_same] at h1
      rw [upA_ne (Ne.symm n)] at h2
      rcases hS b h1 with q | q
      · exact g.dj y z b n q h2
      · exact q.1 z h2
    · rw [upA_ne a] at h1
      by_cases c : z = x
      · subst c
        rw [upA_same] at h2
        rcases hS b h2 with q | q
        · exact g.dj y z b n h1 q
        · exact q.1 y h1
      · rw [upA_ne c] at h2
        exact g.dj y z b n h1 h2
  · by_cases a : y = x
    · subst a
      rw [upA_same] at hb
      rcases hS b hb with q | q
      · exact g.ff y b q
      · exact q.2
    · rw [upA_ne a] at hb; exact g.ff y b hb
  · by_cases a : y = x
    · subst a
      rw [upA_same] at hb
      exact w.there b hb
    · rw [upA_ne a] at hb
      obtain ⟨o, e, q⟩ := g.ft y b hb
      exact ⟨o, hH b o e (g.dj y x b a hb), q⟩
  · exact hH b u (g.fh b u e) fun hb => by rw [g.ff x b hb] at e; cases e
theorem frWrite {A0 : Fp} {x : Ix} {S : List Addr} (hS : ∀ b ∈ S, (∃ y, b ∈ A0 y) ∨ H b = none) (hA : ∀ y b, b ∈ A y → ∃ z, b ∈ A0 z) (hx : ∀ b ∈ A x, ∃ z, b ∈ A0 z) (hH : ∀ b o, H b = some o → b ∉ A x → H' b = some o)
    (ht : ∀ b, H b ≠ none → H' b ≠ none) (hTb : ∀ b ps, H' b = some (.tbl ps) → ∃ ps', H b = some (.tbl ps')) (hT : ∀ x b, b ∈ A0 x → ∃ o, H b = some o ∧ NotT o = true) : Fr A0 F H (upA A x S) F H' :=
  Fr.mk' (fun b o e n => hH b o e fun hb => let ⟨z, hz⟩ := hx b hb; n z hz) ht hTb (fun y b hb => by
    by_cases a : y = x
    · subst a; rw [upA_same] at hb; exact hS b hb
    · rw [upA_ne a] at hb; exact .inl (hA y b hb)) (Same.refl _) (fun b e => .inl e) hT
/-- one owned cell is written -/
theorem G.write1 {x : Ix} {o o' : O} {a : Addr} {u : HO} (g : G κ A F H ρ σ τ υ) (len : ρ'.length = ρ.length) (lent : τ'.length = τ.length)
    (h0 : atO ρ τ x = some o) (ha : a ∈ A x)
    (hx : ∀ o, atO ρ' τ' x = some o → o = o') (hy : ∀ y o, y ≠ x → atO ρ' τ' y = some o → atO ρ τ y = some o) {v : V} (hv : atV σ υ x = some v) (w : Own κ F (upd H a u) o' v (A x)) :
    G κ (upA A x (A x)) F (upd H a u) ρ' σ τ' υ ∧ Fr A F H (upA A x (A x)) F (upd H a u) := by
  have hH : ∀ b o, H b = some o → b ∉ A x → (upd H a u) b = some o := fun b o e n => by rw [upd_ne (fun z => n (by rw [z]; exact ha))]; exact e
  refine ⟨g.write len lent hx hy hv w (g.nd x) (fun b hb => .inl hb) hH, frWrite (fun b hb => .inl ⟨x, hb⟩) (fun y b hb => ⟨y, hb⟩) (fun b hb => ⟨x, hb⟩) hH (fun b e => ?_) (tbl_upd fun ps z => by
    obtain ⟨o, e, n⟩ := w.there a ha
    rw [upd_same] at e; cases e; rw [z] at n; cases n) g.ft⟩
  by_cases z : b = a
  · subst z; rw [upd_same]; simp
  · rw [upd_ne z]; exact e
theorem Own.lst_own {ds : List D} {v : V} {S : List Addr} (w : Own κ F H (.lst ds) v S) : ∃ a vs, v = .ref a ∧ S = [a] ∧ H a = some (.lst vs) ∧ Reps κ F vs ds := by
  cases w with
  | fd w => cases w with
    | ct w =>
      obtain ⟨vs, h1, h2⟩ := w
      exact ⟨_, vs, rfl, rfl, h1, h2⟩
theorem upA_id {x : Ix} : upA A x (A x) = A := by
  funext y; unfold upA; split
  · rename_i e; rw [e]
  · rfl
/-- the list on the top of the stack -/
theorem G.writeT {ds ds' : List D} {v : V} (g : G κ A F H ρ σ (τ ++ [.lst ds]) (υ ++ [v])) : ∃ a vs, v = .ref a ∧ H a = some (.lst vs) ∧ Reps κ F vs ds ∧ ∀ ws, Reps κ F ws ds' →
    G κ A F (upd H a (.lst ws)) ρ σ (τ ++ [.lst ds']) (υ ++ [v]) ∧ Fr A F H A F (upd H a (.lst ws)) := by
  have hl : τ.length = υ.length := by have := g.lent; simp at this; exact this
  obtain ⟨u, h1, h2⟩ := g.own (.t τ.length) _ atO_top
  rw [hl, atV_top] at h1; cases h1
  obtain ⟨a, vs, rfl, hS, h3, h4⟩ := h2.lst_own
  refine ⟨a, vs, rfl, h3, h4, fun ws r => ?_⟩
  have q := g.write1 (ρ' := ρ) (τ' := τ ++ [.lst ds']) (x := .t τ.length) (o := .lst ds) (o' := .lst ds') (a := a) (u := .lst ws) rfl (by simp) atO_top (by rw [hS]; simp) (fun o e => by rw [atO_top] at e; cases e; rfl)
    (fun y o n e => by rw [atO_app n] at e ⊢; exact e) (v := .ref a) (by rw [hl]; exact atV_top) (by rw [hS]; exact .fd (.ct ⟨ws, upd_same, r⟩))
  rw [upA_id] at q
  exact q
/-- a slot's list -/
theorem G.writeS {ds ds' : List D} {i : Nat} (g : G κ A F H ρ σ τ υ) (h : ρ[i]? = some (some (.lst ds))) : ∃ a vs, σ[i]? = some (some (.ref a)) ∧ A (.s i) = [a] ∧ H a = some (.lst vs) ∧ Reps κ F vs ds ∧ ∀ ws, Reps κ F ws ds' →
    G κ A F (upd H a (.lst ws)) (ρ.set i (some (.lst ds'))) σ τ υ ∧ Fr A F H A F (upd H a (.lst ws)) := by
  obtain ⟨v, h1, h2⟩ := g.slot h
  obtain ⟨a, vs, rfl, hS, h3, h4⟩ := h2.lst_own
  refine ⟨a, vs, h1, hS, h3, h4, fun ws r => ?_⟩
  have hi : i < ρ.length := by
    rcases Nat.lt_or_ge i ρ.length with q | q
    · exact q
    · rw [List.getElem?_eq_none q] at h; cases h
  have q := g.write1 (ρ' := ρ.set i (some (.lst ds'))) (τ' := τ) (x := .s i) (o := .lst ds) (o' := .lst ds') (a := a) (u := .lst ws) (by simp) rfl (by simp [atO, h]) (by rw [hS]; simp) (fun o e => by simp [atO, hi] at e; exact e.symm)
    (fun y o n e => by
      cases y with
      | t k => exact e
      | s j =>
        have hj : j ≠ i := fun z => n (by rw [z])
        simp only [atO] at e ⊢
        rw [List.getElem?_set_ne (Ne.symm hj)] at e
        exact e) (v := .ref a) (by simp [atV, h1]) (by rw [hS]; exact .fd (.ct ⟨ws, upd_same, r⟩))
  rw [upA_id] at q
  exact q
end

abbrev Bn := D → Env → Option Env
def bName (i : Nat) : Bn := fun d ρ => if i < ρ.length then some (ρ.set i (some (.sh d))) else none
def bSeq : List Bn → List D → Env → Option Env
  | [], [], ρ => some ρ
  | b :: bs, d :: ds, ρ => match b d ρ with
    | some ρ1 => bSeq bs ds ρ1
    | none => none
  | _, _, _ => none
def bTup (bs : List Bn) : Bn := fun d ρ => match d with
  | .tup ds => bSeq bs ds ρ
  | _ => none
/-- only the slots ts have changed -/
def Nt (ts : List Nat) (σ σ' : L2.St) : Prop := σ'.length = σ.length ∧ ∀ i, i ∉ ts → σ'[i]? = σ[i]?
theorem Nt.refl {ts : List Nat} {σ : L2.St} : Nt ts σ σ := ⟨rfl, fun _ _ => rfl⟩
theorem Nt.trans {ts us : List Nat} {σ σ1 σ2 : L2.St} (h : Nt ts σ σ1) (h' : Nt us σ1 σ2) : Nt (ts ++ us) σ σ2 :=
  ⟨h'.1.trans h.1, fun i n => (h'.2 i fun z => n (List.mem_append_right _ z)).trans (h.2 i fun z => n (List.mem_append_left _ z))⟩
theorem Nt.set {σ : L2.St} {i : Nat} {v : Option V} : Nt [i] σ (σ.set i v) := ⟨by simp, fun j n => by
  have hj : i ≠ j := fun z => n (by rw [z]; simp)
  rw [List.getElem?_set_ne hj]⟩
def tBn (κ : Kx) (ts : List Nat) (b : Bn) : TG := fun v σ H Q => ∃ A F ρ τ υ d ρ', G κ A F H ρ σ τ υ ∧ Rep κ F v d ∧ b d ρ = some ρ' ∧ ∀ σ' A', Fr A F H A' F H → G κ A' F H ρ' σ' τ υ → Nt ts σ σ' → Q σ' H
def tBns (κ : Kx) (ts : List Nat) (b : List D → Env → Option Env) : TGs := fun vs σ H Q => ∃ A F ρ τ υ ds ρ', G κ A F H ρ σ τ υ ∧ Reps κ F vs ds ∧ b ds ρ = some ρ' ∧ ∀ σ' A', Fr A F H A' F H → G κ A' F H ρ' σ' τ υ → Nt ts σ σ' → Q σ' H
section
variable {X : Cx} {κ : Kx}
theorem pg_imp {e : Expr} {t t' : TG} (h : PG X e t) (i : ∀ v σ H Q, t' v σ H Q → t v σ H Q) : PG X e t' := ⟨fun pins s σ H v u Q I r q => h.run pins s σ H v u Q I r (i v σ H Q q)⟩
theorem pgs_imp {e : List Expr} {t t' : TGs} (h : PGs X e t) (i : ∀ v σ H Q, t' v σ H Q → t v σ H Q) : PGs X e t' := ⟨fun pins s σ H v u Q I r q => h.run pins s σ H v u Q I r (i v σ H Q q)⟩
theorem bind_name {i : Nat} {A : Fp} {F H : Hp} {ρ : Env} {σ : L2.St} {τ : List O} {υ : List V} (g : G κ A F H ρ σ τ υ) {v : V} {d : D} (r : Rep κ F v d) : ∃ A', Fr A F H A' F H ∧ G κ A' F H (ρ.set i (some (.sh d))) (σ.set i (some v)) τ υ := by
  obtain ⟨g1, f1⟩ := g.pushSh r
  obtain ⟨g2, f2⟩ := g1.assign (i := i)
  exact ⟨_, f1.trans f2, g2⟩
theorem dG_name {i : Nat} {x : Str} {pos : Pos} (h : PG X (.Name x pos) (gName i)) : PG X (.Name x pos) (tBn κ [i] (bName i)) := pg_imp h fun v σ H Q ⟨A, F, ρ, τ, υ, d, ρ', g, r, e, q⟩ => by
  unfold bName at e
  split at e
  · cases e
    obtain ⟨A', f, g'⟩ := bind_name (i := i) g r
    exact q _ A' f g' Nt.set
  · cases e
theorem dGs_nil : PGs X [] (tBns κ [] (bSeq [])) := pgs_imp pgs_nil fun vs σ H Q ⟨A, F, ρ, τ, υ, ds, ρ', g, r, e, q⟩ => by
  cases r with
  | nil =>
    cases e
    exact ⟨rfl, q σ A .refl g .refl⟩
  | cons _ _ => cases e
theorem dGs_cons {e : Expr} {es : List Expr} {ts us : List Nat} {b : Bn} {bs : List Bn} (h1 : PG X e (tBn κ ts b)) (h2 : PGs X es (tBns κ us (bSeq bs)))
    (hs : (assignEach (e :: es) X.env).map (·.2) = assign e X.env :: (assignEach es X.env).map (·.2) := by rfl) : PGs X (e :: es) (tBns κ (ts ++ us) (bSeq (b :: bs))) :=
  pgs_imp (pgs_cons h1 h2 hs) fun vs σ H Q ⟨A, F, ρ, τ, υ, ds, ρ', g, r, e, q⟩ => by
    cases r with
    | nil => cases e
    | @cons v vs d ds r rs =>
      unfold bSeq at e
      split at e
      · rename_i ρ1 e1
        exact ⟨v, vs, rfl, A, F, ρ, τ, υ, d, ρ1, g, r, e1, fun σ1 A1 f1 g1 n1 => ⟨A1, F, ρ1, τ, υ, ds, ρ', g1, rs, e, fun σ2 A2 f2 g2 n2 => q σ2 A2 (f1.trans f2) g2 (n1.trans n2)⟩⟩
      · cases e
theorem bSeq_len : ∀ {bs : List Bn} {ds : List D} {ρ ρ' : Env}, bSeq bs ds ρ = some ρ' → ds.length = bs.length
  | [], [], _, _, _ => rfl
  | [], _ :: _, _, _, e => by simp [bSeq] at e
  | _ :: _, [], _, _, e => by simp [bSeq] at e
  | b :: bs, d :: ds, ρ, ρ', e => by
    unfold bSeq at e
    split at e
    · simp [bSeq_len e]
    · cases e
theorem dG_tup {es : List Expr} {k : Nat} {pos : Pos} {ts : List Nat} {bs : List Bn} (hc : X.calm = true) (h : PGs X es (tBns (kx X) ts (bSeq bs)))
    (hn : (assignEach es X.env).length = bs.length := by rfl) (hst : (assignEach es X.env).findIdx? (·.1) = none := by rfl) : PG X (.Tuple es k pos) (tBn (kx X) ts (bTup bs)) :=
  pg_imp (pg_tup hc h hn hst) fun v σ H Q ⟨A, F, ρ, τ, υ, d, ρ', g, r, e, q⟩ => by
    unfold bTup at e
    split at e
    · rename_i ds
      obtain ⟨a, vs, rfl, h1, h2⟩ := r.tup_v
      exact ⟨a, vs, rfl, SqT.of (g.fh _ _ h1), by rw [h2.length]; exact bSeq_len e, A, F, ρ, τ, υ, ds, ρ', g, h2, e, q⟩
    · cases e
end

structure JOk (κ : Kx) (J : It) (F : Hp) (ds : List D) : Prop where
  go : ∀ i F1 H1, Same F F1 → Same F1 H1 → i < ds.length → J.go i H1
  yld : ∀ i d A F1 H1 ρ σ τ υ x H2, Same F F1 → G κ A F1 H1 ρ σ τ υ → ds[i]? = some d → J.yld i H1 x H2 → ∃ A2 F2, Stp true ρ A F1 H1 ρ A2 F2 H2 ∧ G κ A2 F2 H2 ρ σ τ υ ∧ Rep κ F2 x d
  stop : ∀ i F1 H1, Same F F1 → Same F1 H1 → ds.length ≤ i → J.stop i H1
def tIt (κ : Kx) (W : WX') (p : Bool) (m : M (List D)) : TI := fun σ H R => ∃ A F ρ τ υ, G κ A F H ρ σ τ υ ∧ Wp κ W A F H σ τ υ (m ρ) fun ds ρ' => ∀ J A' F' H', Stp p ρ A F H ρ' A' F' H' → G κ A' F' H' ρ' σ τ υ → JOk κ J F' ds → R J H'
def seqD : D → M (List D)
  | .lst xs => mPure xs
  | .fz xs => mPure xs
  | .tup xs => mPure xs
  | _ => fun _ => .bad
theorem jok_lst {κ : Kx} {F : Hp} {a : Addr} {vs : List V} {ds : List D} (h : SqL κ.K F a vs) (r : Reps κ F vs ds) : JOk κ (Itl κ.K a) F ds where
  go := fun i F1 H1 e1 e2 hi => by
    have hi' : i < vs.length := by rw [r.length]; exact hi
    exact ⟨vs, vs[i], e2.seq (e1.seq h), by simp [hi']⟩
  yld := fun i d A F1 H1 ρ σ τ υ x H2 e1 g ed ⟨e, y⟩ => by
    subst e
    obtain ⟨v, h1, h2⟩ := r.get i ed
    have := y vs (g.fh.seq (e1.seq h))
    rw [h1] at this; cases this
    exact ⟨A, F1, .refl, g, h2.mono e1⟩
  stop := fun i F1 H1 e1 e2 hi => ⟨vs, e2.seq (e1.seq h), by rw [r.length]; exact hi⟩
theorem jok_tup {κ : Kx} {F : Hp} {a : Addr} {vs : List V} {ds : List D} (h : F a = some (.tup vs)) (r : Reps κ F vs ds) : JOk κ (Itt κ.K a) F ds where
  go := fun i F1 H1 e1 e2 hi => by
    have hi' : i < vs.length := by rw [r.length]; exact hi
    exact ⟨vs, vs[i], SqT.of (e2 _ _ (e1 _ _ h)), by simp [hi']⟩
  yld := fun i d A F1 H1 ρ σ τ υ x H2 e1 g ed ⟨e, y⟩ => by
    subst e
    obtain ⟨v, h1, h2⟩ := r.get i ed
    have := y vs (SqT.of (g.fh _ _ (e1 _ _ h)))
    rw [h1] at this; cases this
    exact ⟨A, F1, .refl, g, h2.mono e1⟩
  stop := fun i F1 H1 e1 e2 hi => ⟨vs, SqT.of (e2 _ _ (e1 _ _ h)), by rw [r.length]; exact hi⟩
/-- the ints lo, lo + 1, .. -/
def rngD (lo : Int) (n : Nat) : List D := (List.range n).map fun (k : Nat) => D.int (lo + (k : Int))
/-- pairs -/
theorem new_tup {κ : Kx} {A : Fp} {F H : Hp} {ρ : Env} {σ : L2.St} {τ : List O} {υ : List V} (g : G κ A F H ρ σ τ υ) {p : Addr} {vs : List V} {ds : List D} (h : H p = none) (r : Reps κ F vs ds) :
    ∃ A2 F2, Stp true ρ A F H ρ A2 F2 (upd H p (.tup vs)) ∧ G κ A2 F2 (upd H p (.tup vs)) ρ σ τ υ ∧ Rep κ F2 (.ref p) (.tup ds) := by
  obtain ⟨g1, f1⟩ := g.share (.tup vs) h
  exact ⟨_, _, Stp.refl.then f1 (same_new h) fun _ => rfl, g1, .tup upd_same (r.mono f1.grow)⟩
def enumD : Nat → List D → List D
  | _, [] => []
  | k, d :: ds => .tup [.int (k : Int), d] :: enumD (k + 1) ds
theorem enumD_len : ∀ {k : Nat} {ds : List D}, (enumD k ds).length = ds.length
  | _, [] => rfl
  | k, _ :: ds => by simp [enumD, enumD_len (k := k + 1) (ds := ds)]
theorem enumD_get : ∀ {k i : Nat} {ds : List D} {d : D}, (enumD k ds)[i]? = some d → ∃ u, ds[i]? = some u ∧ d = .tup [.int ((k + i : Nat) : Int), u]
  | _, _, [], _, h => by simp [enumD] at h
  | k, 0, u :: ds, d, h => by
    simp [enumD] at h
    exact ⟨u, rfl, h.symm⟩
  | k, i + 1, _ :: ds, d, h => by
    simp only [enumD, List.getElem?_cons_succ] at h
    obtain ⟨u, h1, h2⟩ := enumD_get h
    exact ⟨u, by simpa using h1, by rw [h2]; congr 3; omega⟩
theorem jok_enum {κ : Kx} {F : Hp} {a : Addr} {vs : List V} {ds : List D} (h : F a = some (.lst vs)) (r : Reps κ F vs ds) : JOk κ (Ite κ.K a) F (enumD 0 ds) where
  go := fun i F1 H1 e1 e2 hi => by
    rw [enumD_len] at hi
    have hi' : i < vs.length := by rw [r.length]; exact hi
    exact ⟨vs, vs[i], SqL.of (e2 _ _ (e1 _ _ h)), by simp [hi']⟩
  yld := fun i d A F1 H1 ρ σ τ υ x H2 e1 g ed ⟨T, u, ex, hT, eH, y⟩ => by
    subst ex eH
    obtain ⟨w, h1, rfl⟩ := enumD_get ed
    obtain ⟨v, h3, h4⟩ := r.get i h1
    have := y vs (SqL.of (g.fh _ _ (e1 _ _ h)))
    rw [h3] at this; cases this
    rw [Nat.zero_add]
    exact new_tup g hT (.cons (.int _) (.cons (h4.mono e1) .nil))
  stop := fun i F1 H1 e1 e2 hi => ⟨vs, SqL.of (e2 _ _ (e1 _ _ h)), by rw [r.length]; rw [enumD_len] at hi; exact hi⟩
def zipD : List D → List D → List D
  | a :: as, b :: bs => .tup [a, b] :: zipD as bs
  | _, _ => []
section
variable {X : Cx} {W : WX'} {e a b tg : Expr} {p q : Bool} {ps pos tpos : Pos} {elts : List Expr} {kk : Nat}
theorem pi_either {t u : TI} (h1 : PI X tg e t) (h2 : PI X tg e u) : PI X tg e (fun σ H R => t σ H R ∨ u σ H R) := ⟨fun pins s σ H R I h => h.elim (h1.run pins s σ H R I) (h2.run pins s σ H R I)⟩
theorem pi_imp {t t' : TI} (h : PI X tg e t) (i : ∀ σ H R, t' σ H R → t σ H R) : PI X tg e t' := ⟨fun pins s σ H R I q => h.run pins s σ H R I (i σ H R q)⟩
/-- over a list or a tuple, shared -/
theorem dI_seq {m : M D} (hl : ∀ {t}, PE X e t → PI X tg e (iList X.K t)) (ht : ∀ {t}, PE X e t → PI X tg e (iTup X.K t)) (h : PE X e (tV (kx X) W p m)) : PI X tg e (tIt (kx X) W p (mBind m seqD)) :=
  pi_imp (pi_either (hl h) (ht h)) fun σ H R ⟨A, F, ρ, τ, υ, g, h⟩ => by
    have h1 := h.bind
    cases e1 : m ρ with
    | bad => rw [e1] at h1; exact h1.elim
    | exc d ρ1 =>
      rw [e1] at h1
      exact .inl ⟨A, F, ρ, τ, υ, g, by rw [e1]; exact h1⟩
    | ok d ρ1 =>
      rw [e1] at h1
      have h1 : Wp (kx X) W A F H σ τ υ (seqD d ρ1) _ := h1
      cases d with
      | lst xs =>
        refine .inl ⟨A, F, ρ, τ, υ, g, ?_⟩
        rw [e1]
        intro v A' F' H' s g' r
        obtain ⟨c, vs, rfl, h2, h3⟩ := r.lst_v
        exact ⟨c, rfl, ⟨vs, SqL.of (g'.fh _ _ h2)⟩, h1 _ A' F' H' s g' (jok_lst (SqL.of h2) h3)⟩
      | fz xs =>
        refine .inl ⟨A, F, ρ, τ, υ, g, ?_⟩
        rw [e1]
        intro v A' F' H' s g' r
        obtain ⟨c, vs, rfl, h2, h3⟩ := r.fz_v
        exact ⟨c, rfl, ⟨vs, g'.fh.seq h2⟩, h1 _ A' F' H' s g' (jok_lst h2 h3)⟩
      | tup xs =>
        refine .inr ⟨A, F, ρ, τ, υ, g, ?_⟩
        rw [e1]
        intro v A' F' H' s g' r
        obtain ⟨c, vs, rfl, h2, h3⟩ := r.tup_v
        exact ⟨c, rfl, ⟨vs, SqT.of (g'.fh _ _ h2)⟩, h1 _ A' F' H' s g' (jok_tup h2 h3)⟩
      | _ => exact h1.elim
def zipM : List D → M (List D)
  | [.lst xs, .lst ys] => mPure (zipD xs ys)
  | [.tup xs, .tup ys] => mPure (zipD xs ys)
  | _ => fun _ => .bad
end
end DL

end

section
set_option Elab.async false
set_option linter.all false
set_option maxRecDepth 100000
namespace DL
open PySem L2 RZ

section
variable {κ : Kx} {W : WX'} {mu : List Nat} {E : Ends} {σ σ1 : L2.St} {A A1 : Fp} {F F1 H H1 : Hp} {ρ : Env} {α : Type}
theorem PsO.step {out : OutS} (h : PsO κ W mu E σ A F H out) (f : Fr A F H A1 F1 H1) (hm : ∀ i ∈ mu, σ1[i]? = σ[i]?) : PsO κ W mu E σ1 A1 F1 H1 out := by
  cases out with
  | bad => exact h
  | next ρ' => exact fun σ' A' F' H' f' g' m' => h σ' A' F' H' (f.trans f') g' fun i hi => (m' i hi).trans (hm i hi)
  | ret r ρ' => exact fun v σ' A' F' H' f' g' m' => h v σ' A' F' H' (f.trans f') g' fun i hi => (m' i hi).trans (hm i hi)
  | brk ρ' => exact fun σ' A' F' H' f' g' m' => h σ' A' F' H' (f.trans f') g' fun i hi => (m' i hi).trans (hm i hi)
  | cont ρ' => exact fun σ' A' F' H' f' g' m' => h σ' A' F' H' (f.trans f') g' fun i hi => (m' i hi).trans (hm i hi)
  | exc e ρ' => exact fun cls d σ' A' F' H' f' g' x' m' => h cls d σ' A' F' H' (f.trans f') g' x' fun i hi => (m' i hi).trans (hm i hi)
def sBind {α : Type} (m : M α) (k : α → MS) : MS := fun ρ => match m ρ with
  | .bad => .bad
  | .ok a ρ' => k a ρ'
  | .exc e ρ' => .exc e ρ'
theorem PsO.bind {m : M α} {k : α → MS} (h : PsO κ W mu E σ A F H (sBind m k ρ)) : Wp κ W A F H σ [] [] (m ρ) fun a ρ1 => PsO κ W mu E σ A F H (k a ρ1) := by
  unfold sBind at h
  cases e : m ρ with
  | bad => rw [e] at h; exact h
  | ok a ρ' => rw [e] at h; exact h
  | exc x ρ' =>
    rw [e] at h
    exact fun cls d A' F' H' f g q => h cls d σ A' F' H' f g q fun _ _ => rfl
theorem PsO.next {ρ' : Env} (h : PsO κ W mu E σ A F H (.next ρ')) (f : Fr A F H A1 F1 H1) (g : G κ A1 F1 H1 ρ' σ1 [] []) (hm : ∀ i ∈ mu, σ1[i]? = σ[i]?) : E.nx σ1 H1 := h σ1 A1 F1 H1 f g hm
end
def sNext : MS := fun ρ => .next ρ
def sSeq (m n : MS) : MS := fun ρ => match m ρ with
  | .next ρ' => n ρ'
  | o => o
def sIf (t : M Bool) (m n : MS) : MS := sBind t fun b => if b then m else n
def sRet (m : M O) : MS := sBind m fun r ρ => .ret r ρ
def sRetN : MS := fun ρ => .ret (.sh .non) ρ
def sExpr (m : M O) : MS := sBind m fun _ ρ => .next ρ
def sBrk : MS := fun ρ => .brk ρ
def sCont : MS := fun ρ => .cont ρ
def sBad : MS := fun _ => .bad
def sAsg (i : Nat) (m : M O) : MS := sBind m fun r ρ => .next (ρ.set i (some r))
def sTg (b : Bn) (m : M D) : MS := sBind m fun d ρ => match b d ρ with
  | some ρ' => .next ρ'
  | none => .bad
def sPar (i j : Nat) (ms : M (List O)) : MS := sBind ms fun rs ρ => match rs with
  | [r, s] => .next ((ρ.set j (some s)).set i (some r))
  | _ => .bad
/-- expressions in a row: their values on the stack -/
def tEs (κ : Kx) (W : WX') (p : Bool) (m : M (List O)) : TA := fun σ H Q => ∃ A F ρ τ υ, G κ A F H ρ σ τ υ ∧ Wp κ W A F H σ τ υ (m ρ) fun rs ρ' => ∀ vs A' F' H', Stp p ρ A F H ρ' A' F' H' → G κ A' F' H' ρ' σ (τ ++ rs) (υ ++ vs) → vs.length = rs.length → Q vs H'
def mConsO (m : M O) (ms : M (List O)) : M (List O) := mBind m fun o => mBind ms fun os => mPure (o :: os)
theorem XX.pop {κ : Kx} {W : WX'} {A : Fp} {F H : Hp} {σ : L2.St} {τ : List O} {υ : List V} {e : D} {ρ' : Env} (x : XX κ W A F H σ τ υ e ρ') {r : O} {v : V} : XX κ W A F H σ (τ ++ [r]) (υ ++ [v]) e ρ' :=
  fun cls d A2 F2 H2 f2 g q => by
    obtain ⟨g', _, f'⟩ := g.pop
    exact x cls d _ F2 H2 (f2.trans f') g' q
theorem Wp.pop {κ : Kx} {W : WX'} {A : Fp} {F H : Hp} {σ : L2.St} {τ : List O} {υ : List V} {α : Type} {out : Out α} {q : α → Env → Prop} (h : Wp κ W A F H σ τ υ out q) {r : O} {v : V} : Wp κ W A F H σ (τ ++ [r]) (υ ++ [v]) out q := by
  cases out with
  | bad => exact h
  | ok a ρ' => exact h
  | exc e ρ' => exact XX.pop h
section
variable {X : Cx} {κ : Kx} {W : WX'} {mu : List Nat} {e c : Expr} {es : List Expr} {st : Stmt} {rest a b : List Stmt} {p q : Bool} {pos : Pos}
theorem dS_nil : PSs X [] (tS κ W mu sNext) := pss_imp pss_nil fun E σ H ⟨A, F, ρ, g, h⟩ => h σ A F H .refl g fun _ _ => rfl
theorem dS_cons {m n : MS} (h1 : PS X st (tS κ W mu m)) (h2 : PSs X rest (tS κ W mu n)) : PSs X (st :: rest) (tS κ W mu (sSeq m n)) := pss_imp (pss_cons h1 h2) fun E σ H ⟨A, F, ρ, g, h⟩ => by
  refine ⟨A, F, ρ, g, ?_⟩
  unfold sSeq at h
  cases e : m ρ with
  | next ρ' =>
    rw [e] at h
    exact fun σ' A' F' H' f' g' m' => ⟨A', F', ρ', g', PsO.step h f' m'⟩
  | bad => rw [e] at h; exact h
  | ret r ρ' => rw [e] at h; exact h
  | brk ρ' => rw [e] at h; exact h
  | cont ρ' => rw [e] at h; exact h
  | exc x ρ' => rw [e] at h; exact h
theorem dS_one {m : MS} (h : PS X st (tS κ W mu m)) : PSs X [st] (tS κ W mu m) := pss_one h
theorem dS_bad : PS X st (tS κ W mu sBad) := ps_imp ps_never fun E σ H ⟨A, F, ρ, g, h⟩ => h
theorem dS_if {t : M Bool} {m n : MS} (ht : PT X c (tT κ W p t)) (ha : PSs X a (tS κ W mu m)) (hb : PSs X b (tS κ W mu n)) : PS X (.If c a b pos) (tS κ W mu (sIf t m n)) :=
  ps_imp (ps_if ht ha hb) fun E σ H ⟨A, F, ρ, g, h⟩ => ⟨A, F, ρ, [], [], g, h.bind.imp fun k ρ1 h A1 F1 H1 s1 g1 => by
    cases k with
    | true => exact ⟨A1, F1, ρ1, g1, PsO.step h s1.fr fun _ _ => rfl⟩
    | false => exact ⟨A1, F1, ρ1, g1, PsO.step h s1.fr fun _ _ => rfl⟩⟩
theorem dS_ret {m : M O} (h : PE X e (tE κ W p m)) : PS X (.Return (some e) pos) (tS κ W mu (sRet m)) := ps_imp (ps_ret h) fun E σ H ⟨A, F, ρ, g, h⟩ => ⟨A, F, ρ, [], [], g, h.bind.imp fun r ρ1 h v A1 F1 H1 s1 g1 => h v σ A1 F1 H1 s1.fr g1 fun _ _ => rfl⟩
theorem dS_set {i : Nat} {x : Str} {pos' : Pos} {m : M O} (h : ∀ t, PE X e t → PS X (.Assign [.Name x pos'] e pos) (tAsg t (gName i))) (he : PE X e (tE κ W p m)) (hm : i ∉ mu) : PS X (.Assign [.Name x pos'] e pos) (tS κ W mu (sAsg i m)) :=
  ps_imp (h _ he) fun E σ H ⟨A, F, ρ, g, h⟩ => ⟨A, F, ρ, [], [], g, h.bind.imp fun r ρ1 h v A1 F1 H1 s1 g1 => by
    obtain ⟨g2, f2⟩ := G.assign (τ := []) (υ := []) (i := i) g1
    exact h _ _ F1 H1 (s1.fr.trans f2) g2 fun j hj => List.getElem?_set_ne (fun z => hm (by rw [z]; exact hj))⟩
theorem dEs_nil : PA X [] (tEs κ W true (mPure [])) := pa_imp pa_nil fun σ H Q ⟨A, F, ρ, τ, υ, g, h⟩ => h [] A F H .refl (by simpa using g) rfl
theorem dEs_cons {m : M O} {ms : M (List O)} (h1 : PE X e (tE κ W p m)) (h2 : PA X es (tEs κ W q ms)) (hs : starEach (e :: es) X.env = (false, eval e X.env) :: starEach es X.env := by rfl) : PA X (e :: es) (tEs κ W (p && q) (mConsO m ms)) :=
  pa_imp (pa_cons h1 h2 hs) fun σ H Q ⟨A, F, ρ, τ, υ, g, h⟩ =>
    ⟨A, F, ρ, τ, υ, g, h.bind.imp fun r ρ1 h v A1 F1 H1 s1 g1 => ⟨A1, F1, ρ1, τ ++ [r], υ ++ [v], g1, ((h.step s1.fr).bind.pop).imp fun rs ρ2 h vs A2 F2 H2 s2 g2 l2 => h (v :: vs) A2 F2 H2 (s1.trans s2) (by simpa using g2) (by simp [l2])⟩⟩
theorem dS_par {i j : Nat} {s : Stmt} {ms : M (List O)} {es : List Expr} (h : ∀ t, PA X es t → PS X s (tPar i j t)) (ha : PA X es (tEs κ W p ms)) (hij : i ≠ j) (hi : i ∉ mu) (hj : j ∉ mu) : PS X s (tS κ W mu (sPar i j ms)) :=
  ps_imp (h _ ha) fun E σ H ⟨A, F, ρ, g, h⟩ => ⟨A, F, ρ, [], [], g, h.bind.imp fun rs ρ1 h vs A1 F1 H1 s1 g1 l1 => by
    split at h
    · rename_i r s
      match vs, l1 with
      | [v, w], _ =>
        refine ⟨v, w, rfl, ?_⟩
        obtain ⟨g2, f2⟩ := G.assign (τ := [r]) (υ := [v]) (r := s) (v := w) (i := j) g1
        obtain ⟨g3, f3⟩ := G.assign (τ := []) (υ := []) (i := i) g2
        have e1 : (List.set σ j (some w)).set i (some v) = (List.set σ i (some v)).set j (some w) := List.set_comm _ _ (Ne.symm hij)
        rw [e1] at g3
        refine h _ _ F1 H1 ((s1.fr.trans f2).trans f3) g3 fun k hk => ?_
        rw [List.getElem?_set_ne (fun z => hj (by rw [z]; exact hk)), List.getElem?_set_ne (fun z => hi (by rw [z]; exact hk))]
    · exact h.elim⟩
end
end DL

end

section
set_option Elab.async false
set_option linter.all false
set_option maxRecDepth 100000
namespace DL
open PySem L2 RZ

def forGo (b : Bn) (body : MS) : List D → MS
  | [], ρ => .next ρ
  | d :: ds, ρ => match b d ρ with
    | none => .bad
    | some ρ1 => match body ρ1 with
      | .next ρ2 => forGo b body ds ρ2
      | .cont ρ2 => forGo b body ds ρ2
      | .brk ρ2 => .next ρ2
      | .ret r ρ2 => .ret r ρ2
      | .exc e ρ2 => .exc e ρ2
      | .bad => .bad
theorem forGo_cons {b : Bn} {body : MS} {d : D} {ds : List D} {ρ : Env} : forGo b body (d :: ds) ρ = match b d ρ with
    | none => .bad
    | some ρ1 => match body ρ1 with
      | .next ρ2 => forGo b body ds ρ2
      | .cont ρ2 => forGo b body ds ρ2
      | .brk ρ2 => .next ρ2
      | .ret r ρ2 => .ret r ρ2
      | .exc e ρ2 => .exc e ρ2
      | .bad => .bad := rfl
def sFor (src : M (List D)) (b : Bn) (body : MS) : MS := sBind src fun ds => forGo b body ds
theorem drop_cons {α : Type} {xs : List α} {i : Nat} {x : α} (h : xs[i]? = some x) : xs.drop i = x :: xs.drop (i + 1) := by
  rw [List.getElem?_eq_some_iff] at h
  obtain ⟨hi, e⟩ := h
  rw [← e]
  exact List.drop_eq_getElem_cons hi
section
variable {X : Cx} {W : WX'} {mu ts : List Nat} {tg iter : Expr} {body : List Stmt} {p : Bool} {pos : Pos}
theorem dS_for {κ : Kx} {st : Stmt} {src : M (List D)} {b : Bn} {m : MS} {wi : TI} (h : ∀ g tb, PG X tg g → PSs X body tb → PS X st (tFor wi g tb)) (hi : ∀ σ H R, tIt κ W p src σ H R → wi σ H R) (hg : PG X tg (tBn κ ts b)) (hb : PSs X body (tS κ W mu m)) (hm : ∀ i ∈ mu, i ∉ ts) :
    PS X st (tS κ W mu (sFor src b m)) :=
  ps_imp (h _ _ hg hb) fun E σ H ⟨A, F, ρ, g, h⟩ => hi _ _ _ ⟨A, F, ρ, [], [], g, h.bind.imp fun ds ρ1 h J A1 F1 H1 s1 g1 j => by
    refine ⟨fun i n σ' H' => n = ds.length - i ∧ i ≤ ds.length ∧ ∃ A' F' ρ', Fr A F H A' F' H' ∧ Same F1 F' ∧ G κ A' F' H' ρ' σ' [] [] ∧ (∀ k ∈ mu, σ'[k]? = σ[k]?) ∧ forGo b m ds ρ1 = forGo b m (ds.drop i) ρ',
      ⟨ds.length, by simp, Nat.zero_le _, A1, F1, ρ1, s1.fr, Same.refl _, g1, fun _ _ => rfl, by simp⟩, ?_⟩
    rintro i n σ' H' ⟨rfl, hi, A', F', ρ', f', e', g', m', z'⟩
    by_cases hlt : i < ds.length
    · refine .inr ⟨j.go i F' H' e' g'.fh hlt, ?_⟩
      have ed : ds[i]? = some ds[i] := List.getElem?_eq_getElem hlt
      have h2 := h
      rw [z', drop_cons ed] at h2
      refine ⟨fun σ2 H2 => (i + 1 ≤ ds.length ∧ ∃ A' F' ρ', Fr A F H A' F' H2 ∧ Same F1 F' ∧ G κ A' F' H2 ρ' σ2 [] [] ∧ (∀ k ∈ mu, σ2[k]? = σ[k]?) ∧ forGo b m ds ρ1 = forGo b m (ds.drop (i + 1)) ρ'),
        fun σ2 H2 ⟨hle, x⟩ => ⟨ds.length - (i + 1), by omega, rfl, hle, x⟩, fun x H2 y => ?_⟩
      obtain ⟨A2, F2, s2, g2, r2⟩ := j.yld i _ A' F' H' ρ' σ' [] [] x H2 e' g' ed y
      rw [forGo_cons] at h2
      cases eb : b ds[i] ρ' with
      | none => rw [eb] at h2; exact h2.elim
      | some ρ3 =>
        rw [eb] at h2
        refine ⟨A2, F2, ρ', [], [], _, ρ3, g2, r2, eb, fun σ3 A3 f3 g3 n3 => ⟨A3, F2, ρ3, g3, ?_⟩⟩
        have hz : forGo b m ds ρ1 = (match m ρ3 with
          | .next ρ2 => forGo b m (ds.drop (i + 1)) ρ2
          | .cont ρ2 => forGo b m (ds.drop (i + 1)) ρ2
          | .brk ρ2 => .next ρ2
          | .ret r ρ2 => .ret r ρ2
          | .exc e ρ2 => .exc e ρ2
          | .bad => .bad) := by rw [z', drop_cons ed, forGo_cons, eb]
        have hm3 : ∀ k ∈ mu, σ3[k]? = σ[k]? := fun k hk => (n3.2 k (hm k hk)).trans (m' k hk)
        have fr3 : Fr A F H A3 F2 H2 := (f'.trans s2.fr).trans f3
        have gr3 : Same F1 F2 := e'.trans s2.fr.grow
        simp only at h2
        cases em : m ρ3 with
        | bad => rw [em] at h2; exact h2
        | next ρ4 =>
          rw [em] at hz
          exact fun σ4 A4 F4 H4 f4 g4 m4 => ⟨hlt, A4, F4, ρ4, fr3.trans f4, gr3.trans f4.grow, g4, fun k hk => (m4 k hk).trans (hm3 k hk), hz⟩
        | cont ρ4 =>
          rw [em] at hz
          exact fun σ4 A4 F4 H4 f4 g4 m4 => ⟨hlt, A4, F4, ρ4, fr3.trans f4, gr3.trans f4.grow, g4, fun k hk => (m4 k hk).trans (hm3 k hk), hz⟩
        | brk ρ4 =>
          rw [em] at h2
          exact fun σ4 A4 F4 H4 f4 g4 m4 => h2 σ4 A4 F4 H4 (fr3.trans f4) g4 fun k hk => (m4 k hk).trans (hm3 k hk)
        | ret r ρ4 =>
          rw [em] at h2
          exact fun v σ4 A4 F4 H4 f4 g4 m4 => h2 v σ4 A4 F4 H4 (fr3.trans f4) g4 fun k hk => (m4 k hk).trans (hm3 k hk)
        | exc e ρ4 =>
          rw [em] at h2
          exact fun cls d σ4 A4 F4 H4 f4 g4 x4 m4 => h2 cls d σ4 A4 F4 H4 (fr3.trans f4) g4 x4 fun k hk => (m4 k hk).trans (hm3 k hk)
    · have hi' : i = ds.length := by omega
      refine .inl ⟨j.stop i F' H' e' g'.fh (by omega), ?_⟩
      have h2 := h
      rw [z', hi', List.drop_length] at h2
      exact h2 σ' A' F' H' f' g' m'⟩
end

def wipeE (ρ : Env) : List Nat → Env
  | [] => ρ
  | v :: vs => (wipeE ρ vs).set v none
theorem wipeE_len (ρ : Env) : ∀ vs : List Nat, (wipeE ρ vs).length = ρ.length
  | [] => rfl
  | v :: vs => by unfold wipeE; rw [List.length_set, wipeE_len ρ vs]
theorem wipeE_some {ρ : Env} {i : Nat} {o : O} : ∀ {vs : List Nat}, (wipeE ρ vs)[i]? = some (some o) → ρ[i]? = some (some o) ∧ i ∉ vs
  | [], h => ⟨h, by simp⟩
  | v :: vs, h => by
    unfold wipeE at h
    by_cases hi : v = i
    · subst hi
      rcases Nat.lt_or_ge v (wipeE ρ vs).length with q | q
      · rw [List.getElem?_set_self q] at h; cases h
      · rw [List.getElem?_eq_none (by simpa using q)] at h; cases h
    · rw [List.getElem?_set_ne hi] at h
      obtain ⟨h1, h2⟩ := wipeE_some h
      exact ⟨h1, by simp [h2]; exact fun e => hi e.symm⟩
/-- the slots vs as they were, where they were shared; else unknown -/
def backE (ρ0 ρ : Env) : List Nat → Env
  | [] => ρ
  | v :: vs => (backE ρ0 ρ vs).set v (match ρ0[v]? with
    | some (some (.fd (.sh d))) => some (.fd (.sh d))
    | _ => none)
theorem backE_len (ρ0 ρ : Env) : ∀ vs : List Nat, (backE ρ0 ρ vs).length = ρ.length
  | [] => rfl
  | v :: vs => by unfold backE; rw [List.length_set, backE_len ρ0 ρ vs]
theorem backE_some {ρ0 ρ : Env} {i : Nat} {o : O} : ∀ {vs : List Nat}, (backE ρ0 ρ vs)[i]? = some (some o) → (i ∉ vs ∧ ρ[i]? = some (some o)) ∨ (i ∈ vs ∧ ∃ d, o = .sh d ∧ ρ0[i]? = some (some (.sh d)))
  | [], h => .inl ⟨by simp, h⟩
  | v :: vs, h => by
    unfold backE at h
    by_cases hi : v = i
    · subst hi
      rcases Nat.lt_or_ge v (backE ρ0 ρ vs).length with q | q
      · rw [List.getElem?_set_self q] at h
        right
        refine ⟨by simp, ?_⟩
        split at h
        · rename_i d e
          cases h
          exact ⟨d, rfl, e⟩
        · cases h
      · rw [List.getElem?_eq_none (by simpa using q)] at h; cases h
    · rw [List.getElem?_set_ne hi] at h
      rcases backE_some h with ⟨h1, h2⟩ | ⟨h1, h2⟩
      · exact .inl ⟨by simp [h1]; exact fun e => hi e.symm, h2⟩
      · exact .inr ⟨by simp [h1], h2⟩
section
variable {κ : Kx} {A : Fp} {F H : Hp} {ρ : Env} {σ : L2.St} {τ : List O} {υ : List V}
theorem join_some {α : Type} {l : List (Option α)} {i : Nat} {a : α} (h : (l[i]?).join = some a) : l[i]? = some (some a) := by
  cases q : l[i]? with
  | none => rw [q] at h; cases h
  | some z => rw [q] at h; simp at h; rw [h]
theorem gWipe (g : G κ A F H ρ σ τ υ) (vs : List Nat) : G κ A F H (wipeE ρ vs) (wipe σ vs) τ υ :=
  ⟨by rw [wipeE_len, wipe_length]; exact g.len, g.lent, fun x o e => by
    cases x with
    | t k => exact g.own (.t k) o e
    | s i =>
      obtain ⟨h1, h2⟩ := wipeE_some (join_some e)
      obtain ⟨v, h3, h4⟩ := g.own (.s i) o (by simp [atO, h1])
      refine ⟨v, ?_, h4⟩
      simp only [atV] at h3 ⊢
      rw [wipe_out h2]
      exact h3, g.nd, g.dj, g.ff, g.ft, g.fh, g.tab⟩
theorem gUnwipe {A0 : Fp} {F0 H0 : Hp} {ρ0 : Env} {τ0 : List O} {υ0 : List V} {vs : List Nat} (g0 : G κ A0 F0 H0 ρ0 σ τ0 υ0) (e : Same F0 F) (g : G κ A F H ρ (wipe σ vs) τ υ) :
    ∃ A', G κ A' F H (backE ρ0 ρ vs) σ τ υ ∧ Fr A F H A' F H := by
  let A' : Fp := fun x => match x with
    | .s i => if i ∈ vs then [] else A (.s i)
    | .t k => A (.t k)
  have sub : ∀ x b, b ∈ A' x → b ∈ A x := fun x b hb => by
    cases x with
    | t k => exact hb
    | s i =>
      have hb : b ∈ (if i ∈ vs then [] else A (.s i)) := hb
      split at hb
      · simp at hb
      · exact hb
  refine ⟨A', ⟨by rw [backE_len, g.len, wipe_length], g.lent, fun x o eo => ?_, fun x => ?_, fun x y b n hx hy => g.dj x y b n (sub x b hx) (sub y b hy), fun x b hb => g.ff x b (sub x b hb), fun x b hb => g.ft x b (sub x b hb), g.fh, g.tab⟩, Fr.sub fun x b hb => ⟨x, sub x b hb⟩⟩
  · cases x with
    | t k => exact g.own (.t k) o eo
    | s i =>
      rcases backE_some (join_some eo) with ⟨h1, h2⟩ | ⟨h1, d, rfl, h2⟩
      · obtain ⟨v, h3, h4⟩ := g.own (.s i) o (by simp [atO, h2])
        refine ⟨v, ?_, ?_⟩
        · simp only [atV] at h3 ⊢
          rw [wipe_out h1] at h3
          exact h3
        · show Own κ F H o v (if i ∈ vs then [] else A (.s i))
          rw [if_neg h1]
          exact h4
      · obtain ⟨v, h3, h4⟩ := g0.own (.s i) _ (by simp only [atO, h2]; rfl)
        refine ⟨v, h3, ?_⟩
        show Own κ F H _ v (if i ∈ vs then [] else A (.s i))
        rw [if_pos h1]
        exact .fd (.sh (h4.sh_v.mono e))
  · cases x with
    | t k => exact g.nd (.t k)
    | s i =>
      show (if i ∈ vs then [] else A (.s i)).Nodup
      split
      · exact List.nodup_nil
      · exact g.nd _
end
theorem wipe_get {σ : L2.St} {i : Nat} : ∀ {vs : List Nat}, (wipe σ vs)[i]? = if i ∈ vs ∧ i < σ.length then some none else σ[i]?
  | [] => by simp [wipe]
  | v :: vs => by
    unfold wipe
    by_cases hv : v = i
    · subst hv
      rcases Nat.lt_or_ge v σ.length with q | q
      · rw [List.getElem?_set_self (by rw [wipe_length]; exact q), if_pos ⟨by simp, q⟩]
      · rw [List.getElem?_eq_none (by rw [List.length_set, wipe_length]; exact q), if_neg (by omega), List.getElem?_eq_none q]
    · rw [List.getElem?_set_ne hv, wipe_get (vs := vs)]
      have : (i ∈ v :: vs ∧ i < σ.length) ↔ (i ∈ vs ∧ i < σ.length) := by
        simp only [List.mem_cons]
        constructor
        · rintro ⟨h | h, q⟩
          · exact absurd h.symm hv
          · exact ⟨h, q⟩
        · rintro ⟨h, q⟩
          exact ⟨.inr h, q⟩
      simp only [this]
theorem wipe_nt {σ σ2 : L2.St} {ts vs : List Nat} (h : Nt ts (wipe σ vs) σ2) (hs : ∀ i ∈ ts, i ∈ vs) : wipe σ2 vs = wipe σ vs := by
  have hl : σ2.length = σ.length := by rw [h.1, wipe_length]
  apply List.ext_getElem?
  intro i
  rw [wipe_get, wipe_get, hl]
  by_cases hi : i ∈ vs
  · by_cases hq : i < σ.length
    · rw [if_pos ⟨hi, hq⟩, if_pos ⟨hi, hq⟩]
    · rw [if_neg (by simp [hq]), if_neg (by simp [hq]), List.getElem?_eq_none (by omega), List.getElem?_eq_none (by omega)]
  · rw [if_neg (fun z => hi z.1), if_neg (fun z => hi z.1), h.2 i fun z => hi (hs i z), wipe_out hi]
/-- the turns of a comprehension -/
def lcGo (vs : List Nat) (b : Bn) (t : M Bool) (e : M D) : List D → List D → M (List D)
  | [], acc, ρ => .ok acc ρ
  | d :: ds, acc, ρ => match b d ρ with
    | none => .bad
    | some ρ1 => match t ρ1 with
      | .ok true ρ2 => (match e ρ2 with
        | .ok y ρ3 => if acc.length < lim then lcGo vs b t e ds (acc ++ [y]) (wipeE ρ3 vs) else .bad
        | _ => .bad)
      | .ok false ρ2 => lcGo vs b t e ds acc (wipeE ρ2 vs)
      | _ => .bad
def mLc (vs : List Nat) (src : M (List D)) (b : Bn) (t : M Bool) (e : M D) : M O := mBind src fun ds ρ1 => match lcGo vs b t e ds [] (wipeE ρ1 vs) with
  | .ok acc ρ2 => .ok (.lst acc) (backE ρ1 ρ2 vs)
  | _ => .bad
theorem tYes_of {κ : Kx} {W : WX'} {σ : L2.St} {H : Hp} {Q : Bool → Hp → Prop} (h : tT κ W true (mPure true) σ H Q) : tYes σ H Q := by
  obtain ⟨A, F, ρ, τ, υ, g, h⟩ := h
  exact h A F H .refl g
theorem dTs_nil {X : Cx} {κ : Kx} {W : WX'} : PTs X [] (tT κ W true (mPure true)) := ⟨fun pins s σ H Q I h => pts_nil.run pins s σ H Q I (tYes_of h)⟩
theorem dTs_one {X : Cx} {κ : Kx} {W : WX'} {c : Expr} {p : Bool} {m : M Bool} (h : PT X c (tT κ W p m)) : PTs X [c] (tT κ W p m) := pts_one h
/-- the reading of a comprehension -/
theorem tLc_of {κ : Kx} {W W' : WX'} {p pt pe : Bool} {vs ts : List Nat} {src : M (List D)} {b : Bn} {t : M Bool} {e : M D} (hs : ∀ i ∈ ts, i ∈ vs) {wi : TI} (hi : ∀ σ H R, tIt κ W p src σ H R → wi σ H R) {σ : L2.St} {H : Hp} {Q : VK}
    (h : tE κ W false (mLc vs src b t e) σ H Q) : tLc wi (tBn κ ts b) (tT κ W' pt t) (tV κ W' pe e) vs σ H Q := by
  obtain ⟨A, F, ρ, τ, υ, g, h⟩ := h
  refine hi _ _ _ ⟨A, F, ρ, τ, υ, g, h.bind.imp fun ds ρ1 h J A1 F1 H1 s1 g1 j => ?_⟩
  intro D hD
  obtain ⟨g2, f2⟩ := g1.pushNew (r := .lst []) hD rfl (.fd (.ct ⟨[], upd_same, .nil⟩))
  cases ez : lcGo vs b t e ds [] (wipeE ρ1 vs) with
  | bad => rw [ez] at h; exact h.elim
  | exc _ _ => rw [ez] at h; exact h.elim
  | ok accZ ρZ =>
  rw [ez] at h
  have h : ∀ v A' F' H', Stp false ρ A F H (backE ρ1 ρZ vs) A' F' H' → G κ A' F' H' (backE ρ1 ρZ vs) σ (τ ++ [.lst accZ]) (υ ++ [v]) → Q v H' := h
  refine ⟨fun i n H' => n = ds.length - i ∧ i ≤ ds.length ∧ ∃ A' F' ρ' acc, Fr A F H A' F' H' ∧ Same F1 F' ∧ G κ A' F' H' ρ' (wipe σ vs) (τ ++ [.lst acc]) (υ ++ [.ref D]) ∧ lcGo vs b t e (ds.drop i) acc ρ' = .ok accZ ρZ,
    ⟨ds.length, by simp, Nat.zero_le _, _, F1, wipeE ρ1 vs, [], s1.fr.trans f2, Same.refl _, gWipe g2 vs, by rw [List.drop_zero]; exact ez⟩, ?_⟩
  rintro i n H' ⟨rfl, hi, A', F', ρ', acc, f', e', g', z'⟩
  by_cases hlt : i < ds.length
  · refine .inr ⟨j.go i F' H' e' g'.fh hlt, ?_⟩
    have ed : ds[i]? = some ds[i] := List.getElem?_eq_getElem hlt
    rw [drop_cons ed] at z'
    refine ⟨fun H2 => (i + 1 ≤ ds.length ∧ ∃ A' F' ρ' acc, Fr A F H A' F' H2 ∧ Same F1 F' ∧ G κ A' F' H2 ρ' (wipe σ vs) (τ ++ [.lst acc]) (υ ++ [.ref D]) ∧ lcGo vs b t e (ds.drop (i + 1)) acc ρ' = .ok accZ ρZ),
      fun H2 ⟨hle, x⟩ => ⟨ds.length - (i + 1), by omega, rfl, hle, x⟩, fun x H2 y => ?_⟩
    obtain ⟨A2, F2, s2, g2', r2⟩ := j.yld i _ A' F' H' ρ' _ _ _ x H2 e' g' ed y
    unfold lcGo at z'
    cases eb : b ds[i] ρ' with
    | none => rw [eb] at z'; cases z'
    | some ρ3 =>
      rw [eb] at z'
      refine ⟨A2, F2, ρ', _, _, _, ρ3, g2', r2, eb, fun σ3 A3 f3 g3 n3 => ⟨wipe_nt n3 hs, A3, F2, ρ3, _, _, g3, ?_⟩⟩
      have fr3 : Fr A F H A3 F2 H2 := (f'.trans s2.fr).trans f3
      have gr3 : Same F1 F2 := e'.trans s2.fr.grow
      simp only at z'
      cases et : t ρ3 with
      | bad => rw [et] at z'; cases z'
      | exc _ _ => rw [et] at z'; cases z'
      | ok k ρ4 =>
        rw [et] at z'
        intro A4 F4 H4 s4 g4
        cases k with
        | false =>
          have g5 := gWipe g4 vs
          rw [wipe_nt n3 hs] at g5
          rw [if_neg (by decide)]
          exact ⟨hlt, A4, F4, _, acc, fr3.trans s4.fr, gr3.trans s4.fr.grow, g5, z'⟩
        | true =>
          rw [if_pos rfl]
          refine ⟨A4, F4, ρ4, _, _, g4, ?_⟩
          simp only at z'
          cases ee : e ρ4 with
          | bad => rw [ee] at z'; cases z'
          | exc _ _ => rw [ee] at z'; cases z'
          | ok y ρ5 =>
            rw [ee] at z'
            intro v A5 F5 H5 s5 g5 r5
            simp only at z'
            split at z'
            · rename_i hl
              obtain ⟨a, ws, ea, h6, r6, w6⟩ := g5.writeT (ds' := acc ++ [y])
              cases ea
              obtain ⟨g7, f7⟩ := w6 (ws ++ [v]) (r6.append (.cons r5 .nil))
              have g8 := gWipe g7 vs
              rw [wipe_nt n3 hs] at g8
              exact ⟨ws, h6, by rw [r6.length, ← lim_eq]; exact hl, hlt, A5, F5, _, _, ((fr3.trans s4.fr).trans s5.fr).trans f7, (gr3.trans s4.fr.grow).trans s5.fr.grow, g8, z'⟩
            · cases z'
  · have hi' : i = ds.length := by omega
    refine .inl ⟨j.stop i F' H' e' g'.fh (by omega), ?_⟩
    rw [hi', List.drop_length] at z'
    have z' : Out.ok acc ρ' = Out.ok accZ ρZ := z'
    cases z'
    obtain ⟨A2, g3, f3⟩ := gUnwipe g1 e' g'
    exact h _ A2 F' H' (.no (f'.trans f3)) g3
end DL

end

section
set_option Elab.async false
set_option linter.all false
set_option maxRecDepth 100000
namespace DL
open PySem L2 RZ PyProof.Rows

abbrev Sem := List O → Out O
def W0 : WX' := fun _ _ _ _ => False
def keepE (mu : List Nat) (n : Nat) (ρ : Env) : Env := (List.range n).map fun i => if i ∈ mu then (ρ[i]?).join else none
def semOf (N n : Nat) (mu : List Nat) (m : MS) : Sem := fun os => if os.length = n then match m (os.map some ++ List.replicate (N - n) none) with
  | .ret r ρ' => .ok r (keepE mu n ρ')
  | .next ρ' => .ok (.sh .non) (keepE mu n ρ')
  | _ => .bad else .bad
def spD (κ : Kx) (n : Nat) (sem : Sem) : Sp := fun vs H Q E => vs.length = n ∧ ∃ A F os, G κ A F H (os.map some) (vs.map some) [] [] ∧ match sem os with
  | .ok r fs => ∀ v A' F' H', Fr A F H A' F' H' → G κ A' F' H' fs (vs.map some) [r] [v] → Q v H'
  | _ => False
section
variable {κ : Kx} {A : Fp} {F H : Hp} {ρ : Env} {σ : L2.St} {τ : List O} {υ : List V}
theorem atO_get {i : Nat} {o : O} (h : atO ρ τ (.s i) = some o) : ρ[i]? = some (some o) := join_some h
theorem gPad (g : G κ A F H ρ σ τ υ) (k : Nat) : G κ A F H (ρ ++ List.replicate k none) (σ ++ List.replicate k none) τ υ :=
  ⟨by simp [g.len], g.lent, fun x o e => by
    cases x with
    | t k => exact g.own (.t k) o e
    | s i =>
      have e1 := atO_get e
      have hi : i < ρ.length := by
        rcases Nat.lt_or_ge i ρ.length with q | q
        · exact q
        · rw [List.getElem?_append_right q, List.getElem?_replicate] at e1
          split at e1 <;> cases e1
      rw [List.getElem?_append_left hi] at e1
      obtain ⟨v, h1, h2⟩ := g.own (.s i) o (by simp [atO, e1])
      refine ⟨v, ?_, h2⟩
      simp only [atV] at h1 ⊢
      rw [List.getElem?_append_left (by rw [← g.len]; exact hi)]
      exact h1, g.nd, g.dj, g.ff, g.ft, g.fh, g.tab⟩
theorem gCut {n : Nat} {mu : List Nat} {σc : L2.St} (g : G κ A F H ρ σ τ υ) (hn : σc.length = n) (hm : ∀ i ∈ mu, i < n → σ[i]? = σc[i]?) : G κ A F H (keepE mu n ρ) σc τ υ :=
  ⟨by simp [keepE, hn], g.lent, fun x o e => by
    cases x with
    | t k => exact g.own (.t k) o e
    | s i =>
      have e1 := atO_get e
      simp only [keepE, List.getElem?_map] at e1
      rcases Nat.lt_or_ge i n with q | q
      · rw [List.getElem?_range q] at e1
        simp only [Option.map_some, Option.some.injEq] at e1
        split at e1
        · rename_i hi
          obtain ⟨v, h1, h2⟩ := g.own (.s i) o e1
          refine ⟨v, ?_, h2⟩
          simp only [atV] at h1 ⊢
          rw [← hm i hi q]
          exact h1
        · cases e1
      · rw [List.getElem?_eq_none (by simpa using q)] at e1
        exact absurd e1 nofun, g.nd, g.dj, g.ff, g.ft, g.fh, g.tab⟩
end
inductive Args (σ : L2.St) : List (Option Nat) → List V → List V → Prop
  | nil : Args σ [] [] []
  | slot {i : Nat} {v : V} {as : List (Option Nat)} {us vs : List V} : σ[i]? = some (some v) → Args σ as us vs → Args σ (some i :: as) us (v :: vs)
  | push {v : V} {as : List (Option Nat)} {us vs : List V} : Args σ as us vs → Args σ (none :: as) (v :: us) (v :: vs)
theorem Args.length {σ : L2.St} {as : List (Option Nat)} {us vs : List V} (h : Args σ as us vs) : vs.length = as.length := by
  induction h with
  | nil => rfl
  | slot _ _ ih => simp [ih]
  | push _ ih => simp [ih]
def tAs (κ : Kx) (W : WX') (as : List (Option Nat)) (m : M (List O)) : TA := fun σ H Q => ∃ A F ρ τ υ, G κ A F H ρ σ τ υ ∧ Wp κ W A F H σ τ υ (m ρ) fun rs ρ' => ∀ vs us A' F' H', Fr A F H A' F' H' → G κ A' F' H' ρ' σ (τ ++ rs) (υ ++ us) → us.length = rs.length → Args σ as us vs → Q vs H'
/-- a slot that is handed on by reference -/
def mHas (i : Nat) (ms : M (List O)) : M (List O) := fun ρ => match ρ[i]? with
  | some (some _) => ms ρ
  | _ => .bad
section
variable {X : Cx} {κ : Kx} {W : WX'} {e : Expr} {es : List Expr} {p : Bool} {as : List (Option Nat)}
theorem dA_nil : PA X [] (tAs κ W [] (mPure [])) := pa_imp pa_nil fun σ H Q ⟨A, F, ρ, τ, υ, g, h⟩ => h [] [] A F H .refl (by simpa using g) rfl .nil
theorem dA_push {m : M O} {ms : M (List O)} (h1 : PE X e (tE κ W p m)) (h2 : PA X es (tAs κ W as ms)) (hs : starEach (e :: es) X.env = (false, eval e X.env) :: starEach es X.env := by rfl) : PA X (e :: es) (tAs κ W (none :: as) (mConsO m ms)) :=
  pa_imp (pa_cons h1 h2 hs) fun σ H Q ⟨A, F, ρ, τ, υ, g, h⟩ =>
    ⟨A, F, ρ, τ, υ, g, h.bind.imp fun r ρ1 h v A1 F1 H1 s1 g1 => ⟨A1, F1, ρ1, τ ++ [r], υ ++ [v], g1, ((h.step s1.fr).bind.pop).imp fun rs ρ2 h vs us A2 F2 H2 s2 g2 l2 ar => h (v :: vs) (v :: us) A2 F2 H2 (s1.fr.trans s2) (by simpa using g2) (by simp [l2]) (.push ar)⟩⟩
theorem dA_slot {x : Str} {pos : Pos} {i : Nat} {ms : M (List O)} (h1 : PE X (.Name x pos) (tVar i)) (h2 : PA X es (tAs κ W as ms)) (hs : starEach (.Name x pos :: es) X.env = (false, eval (.Name x pos) X.env) :: starEach es X.env := by rfl) : PA X (.Name x pos :: es) (tAs κ W (some i :: as) (mHas i ms)) :=
  pa_imp (pa_cons h1 h2 hs) fun σ H Q ⟨A, F, ρ, τ, υ, g, h⟩ => by
    unfold mHas at h
    split at h
    · rename_i o e
      obtain ⟨v, h1, _⟩ := g.slot e
      exact ⟨v, h1, A, F, ρ, τ, υ, g, h.imp fun rs ρ2 h vs us A2 F2 H2 s2 g2 l2 ar => h (v :: vs) us A2 F2 H2 s2 g2 l2 (.slot h1 ar)⟩
    · exact h.elim
end
def fill : List (Option Nat) → List O → Env → Option (List O)
  | [], [], _ => some []
  | some i :: as, rs, ρ => match ρ[i]? with
    | some (some o) => match fill as rs ρ with
      | some os => some (o :: os)
      | none => none
    | _ => none
  | none :: as, r :: rs, ρ => match fill as rs ρ with
    | some os => some (r :: os)
    | none => none
  | _, _, _ => none
def slotSh (ρ : Env) (i : Nat) : Bool := match ρ[i]? with
  | some (some (.fd (.sh _))) => true
  | _ => false
def putBack (ρ0 : Env) : List (Option Nat) → Env → Env → Env
  | [], _, ρ => ρ
  | some i :: as, fs, ρ => putBack ρ0 as fs.tail (if slotSh ρ0 i = true then ρ else ρ.set i fs.head?.join)
  | none :: as, fs, ρ => putBack ρ0 as fs.tail ρ
def mCallF (sem : Sem) (as : List (Option Nat)) (ms : M (List O)) : M O := mBind ms fun rs ρ => match fill as rs ρ with
  | some os => match sem os with
    | .ok r fs => .ok r (putBack ρ as fs ρ)
    | _ => .bad
  | none => .bad
/-- where the j-th argument lies at the caller's -/
def srcIx : Nat → List (Option Nat) → Nat → Option Ix
  | _, [], _ => none
  | _, some i :: _, 0 => some (.s i)
  | k, none :: _, 0 => some (.t k)
  | k, some _ :: as, j + 1 => srcIx k as j
  | k, none :: as, j + 1 => srcIx (k + 1) as j
theorem srcIx_t : ∀ {as : List (Option Nat)} {k j k' : Nat}, srcIx k as j = some (.t k') → k ≤ k'
  | [], _, _, _, h => by simp [srcIx] at h
  | some i :: as, k, 0, k', h => by simp [srcIx] at h
  | none :: as, k, 0, k', h => by simp [srcIx] at h; omega
  | some i :: as, k, j + 1, k', h => srcIx_t (as := as) (by simpa [srcIx] using h)
  | none :: as, k, j + 1, k', h => by have := srcIx_t (as := as) (k := k + 1) (by simpa [srcIx] using h); omega
theorem srcIx_s : ∀ {as : List (Option Nat)} {k j i : Nat}, srcIx k as j = some (.s i) ↔ as[j]? = some (some i)
  | [], _, _, _ => by simp [srcIx]
  | some i' :: as, k, 0, i => by simp [srcIx]
  | none :: as, k, 0, i => by simp [srcIx]
  | some i' :: as, k, j + 1, i => by simpa [srcIx] using srcIx_s (as := as)
  | none :: as, k, j + 1, i => by simpa [srcIx] using srcIx_s (as := as) (k := k + 1)
theorem srcIx_inj : ∀ {as : List (Option Nat)} {k j j' : Nat} {y : Ix}, (as.filterMap id).Nodup → srcIx k as j = some y → srcIx k as j' = some y → j = j'
  | [], _, _, _, _, _, h, _ => by simp [srcIx] at h
  | a :: as, k, 0, 0, y, _, _, _ => rfl
  | some i :: as, k, 0, j' + 1, y, n, h, h' => by
    simp [srcIx] at h h'
    subst h
    have h2 := srcIx_s.mp h'
    have : i ∈ as.filterMap id := List.mem_filterMap.mpr ⟨some i, List.mem_iff_getElem?.mpr ⟨j', h2⟩, rfl⟩
    simp at n
    exact absurd (by simpa using this) n.1
  | some i :: as, k, j + 1, 0, y, n, h, h' => by
    simp [srcIx] at h h'
    subst h'
    have h2 := srcIx_s.mp h
    have : i ∈ as.filterMap id := List.mem_filterMap.mpr ⟨some i, List.mem_iff_getElem?.mpr ⟨j, h2⟩, rfl⟩
    simp at n
    exact absurd (by simpa using this) n.1
  | none :: as, k, 0, j' + 1, y, n, h, h' => by
    simp [srcIx] at h h'
    subst h
    have := srcIx_t h'
    omega
  | none :: as, k, j + 1, 0, y, n, h, h' => by
    simp [srcIx] at h h'
    subst h'
    have := srcIx_t h
    omega
  | some i :: as, k, j + 1, j' + 1, y, n, h, h' => by
    have n' : (as.filterMap id).Nodup := by simp at n ⊢; exact n.2
    have := srcIx_inj (as := as) (k := k) n' (by simpa [srcIx] using h) (by simpa [srcIx] using h')
    omega
  | none :: as, k, j + 1, j' + 1, y, n, h, h' => by
    have n' : (as.filterMap id).Nodup := by simp at n ⊢; exact n
    have := srcIx_inj (as := as) (k := k + 1) n' (by simpa [srcIx] using h) (by simpa [srcIx] using h')
    omega
theorem srcIx_O : ∀ {as : List (Option Nat)} {rs : List O} {ρ : Env} {τ : List O} {os : List O} {j : Nat} {o : O}, fill as rs ρ = some os → os[j]? = some o → ∃ y, srcIx τ.length as j = some y ∧ atO ρ (τ ++ rs) y = some o
  | [], [], ρ, τ, os, j, o, h, h' => by simp [fill] at h; subst h; simp at h'
  | [], _ :: _, ρ, τ, os, j, o, h, h' => by simp [fill] at h
  | some i :: as, rs, ρ, τ, os, j, o, h, h' => by
    unfold fill at h
    split at h
    · rename_i o1 e1
      split at h
      · rename_i os1 e2
        cases h
        cases j with
        | zero =>
          simp at h'
          subst h'
          exact ⟨.s i, rfl, by simp [atO, e1]⟩
        | succ j =>
          obtain ⟨y, h1, h2⟩ := srcIx_O (τ := τ) e2 (by simpa using h')
          exact ⟨y, by simpa [srcIx] using h1, h2⟩
      · cases h
    · cases h
  | none :: as, [], ρ, τ, os, j, o, h, h' => by simp [fill] at h
  | none :: as, r :: rs, ρ, τ, os, j, o, h, h' => by
    unfold fill at h
    split at h
    · rename_i os1 e2
      cases h
      cases j with
      | zero =>
        simp at h'
        subst h'
        exact ⟨.t τ.length, rfl, by simp [atO]⟩
      | succ j =>
        obtain ⟨y, h1, h2⟩ := srcIx_O (τ := τ ++ [r]) e2 (by simpa using h')
        exact ⟨y, by simpa [srcIx] using h1, by simpa using h2⟩
    · cases h
theorem srcIx_V {σ : L2.St} : ∀ {as : List (Option Nat)} {us vs : List V} {υ : List V} {j : Nat} {y : Ix}, Args σ as us vs → srcIx υ.length as j = some y → atV σ (υ ++ us) y = vs[j]?
  | _, _, _, υ, j, y, .nil, h => by simp [srcIx] at h
  | some i :: as, us, v :: vs, υ, 0, y, .slot e r, h => by
    simp [srcIx] at h
    subst h
    simp [atV, e]
  | some i :: as, us, v :: vs, υ, j + 1, y, .slot e r, h => by
    simpa using srcIx_V r (by simpa [srcIx] using h)
  | none :: as, u :: us, _ :: vs, υ, 0, y, .push r, h => by
    simp [srcIx] at h
    subst h
    simp [atV]
  | none :: as, u :: us, _ :: vs, υ, j + 1, y, .push r, h => by
    simpa using srcIx_V (υ := υ ++ [u]) r (by simpa [srcIx] using h)
theorem putBack_len {ρ0 : Env} : ∀ {as : List (Option Nat)} {fs ρ : Env}, (putBack ρ0 as fs ρ).length = ρ.length
  | [], _, _ => rfl
  | some i :: as, fs, ρ => by unfold putBack; rw [putBack_len]; split <;> simp
  | none :: as, fs, ρ => by unfold putBack; rw [putBack_len]
theorem putBack_get {ρ0 : Env} {i : Nat} {o : O} : ∀ {as : List (Option Nat)} {fs ρ : Env}, (putBack ρ0 as fs ρ)[i]? = some (some o) →
    (∃ j : Nat, as[j]? = some (some i) ∧ fs[j]? = some (some o) ∧ slotSh ρ0 i = false) ∨ (ρ[i]? = some (some o) ∧ (some i ∉ as ∨ slotSh ρ0 i = true))
  | [], _, _, h => .inr ⟨h, .inl (by simp)⟩
  | none :: as, fs, ρ, h => by
    unfold putBack at h
    rcases putBack_get h with ⟨j, h1, h2, h3⟩ | ⟨h1, h2⟩
    · exact .inl ⟨j + 1, by simpa using h1, by cases fs <;> simp_all, h3⟩
    · exact .inr ⟨h1, by simpa using h2⟩
  | some i' :: as, fs, ρ, h => by
    unfold putBack at h
    rcases putBack_get h with ⟨j, h1, h2, h3⟩ | ⟨h1, h2⟩
    · exact .inl ⟨j + 1, by simpa using h1, by cases fs <;> simp_all, h3⟩
    · by_cases hi : i' = i
      · subst hi
        cases q : slotSh ρ0 i' with
        | true =>
          rw [if_pos q] at h1
          exact .inr ⟨h1, .inr rfl⟩
        | false =>
          rw [if_neg (by simp [q])] at h1
          left
          refine ⟨0, rfl, ?_, rfl⟩
          rcases Nat.lt_or_ge i' ρ.length with z | z
          · rw [List.getElem?_set_self z] at h1
            cases fs with
            | nil => simp at h1
            | cons f fs => simp at h1; simp [h1]
          · rw [List.getElem?_eq_none (by simpa using z)] at h1; cases h1
      · have h1' : ρ[i]? = some (some o) := by
          split at h1
          · exact h1
          · rw [List.getElem?_set_ne hi] at h1; exact h1
        refine .inr ⟨h1', h2.elim (fun z => .inl ?_) .inr⟩
        simp [z]
        exact fun z => hi z.symm
def posOf : List (Option Nat) → Nat → Option Nat
  | [], _ => none
  | a :: as, i => if a = some i then some 0 else (posOf as i).map (· + 1)
theorem posOf_get : ∀ {as : List (Option Nat)} {i j : Nat}, posOf as i = some j → as[j]? = some (some i)
  | [], _, _, h => by simp [posOf] at h
  | a :: as, i, j, h => by
    unfold posOf at h
    split at h
    · rename_i e; cases h; simp [e]
    · cases q : posOf as i with
      | none => rw [q] at h; cases h
      | some j' =>
        rw [q] at h
        cases h
        simpa using posOf_get q
theorem posOf_none : ∀ {as : List (Option Nat)} {i : Nat}, posOf as i = none → some i ∉ as
  | [], _, _ => by simp
  | a :: as, i, h => by
    unfold posOf at h
    split at h
    · cases h
    · rename_i e
      cases q : posOf as i with
      | none =>
        have := posOf_none q
        simp [this]
        exact fun z => e z.symm
      | some j' => rw [q] at h; cases h
/-- a call's end: what the callee owned comes back -/
theorem gMerge {κ : Kx} {A A2 Ac A' : Fp} {F F2 H H2 : Hp} {ρ ρ2 ρ' : Env} {σ σ2 : L2.St} {τ τ2 τ' : List O} {υ υ2 υ' : List V} (g : G κ A F H ρ σ τ υ) (g2 : G κ A2 F2 H2 ρ2 σ2 τ2 υ2) (f : Ix → Option Ix) (d : Ix → Option Ix)
    (hc : ∀ y, Ac y = match f y with | some x => A x | none => []) (fr : Fr Ac F H A2 F2 H2)
    (hA : ∀ x z, d x = some z → A' x = A2 z) (hU : ∀ x, d x = none → ∀ b ∈ A' x, b ∈ A x ∧ ∀ y, f y ≠ some x) (hN : ∀ x, (A' x).Nodup) (hd : ∀ x x' z, d x = some z → d x' = some z → x = x')
    (len : ρ'.length = σ.length) (lent : τ'.length = υ'.length)
    (own : ∀ x o, atO ρ' τ' x = some o → (∃ z, d x = some z ∧ atO ρ2 τ2 z = some o ∧ atV σ υ' x = atV σ2 υ2 z) ∨ (d x = none ∧ A' x = A x ∧ ∃ z, atO ρ τ z = some o ∧ atV σ υ' x = atV σ υ z ∧ A z = A x)) :
    G κ A' F2 H2 ρ' σ τ' υ' ∧ Fr A F H A' F2 H2 := by
  have cA : ∀ y b, b ∈ Ac y → ∃ x, f y = some x ∧ b ∈ A x := fun y b hb => by
    rw [hc] at hb
    cases e : f y with
    | none => rw [e] at hb; simp at hb
    | some x => rw [e] at hb; exact ⟨x, rfl, hb⟩
  have nU : ∀ x, d x = none → ∀ b ∈ A' x, ∀ y, b ∉ Ac y := fun x hx b hb y hy => by
    obtain ⟨z, h1, h2⟩ := cA y b hy
    obtain ⟨h3, h4⟩ := hU x hx b hb
    refine g.dj z x b (fun e => ?_) h2 h3
    subst e
    exact h4 y h1
  have nZ : ∀ x z, d x = none → ∀ b ∈ A' x, b ∉ A2 z := fun x z hx b hb hz => by
    rcases fr.new z b hz with ⟨y, hy⟩ | e
    · exact nU x hx b hb y hy
    · exact g.notinF e x (hU x hx b hb).1
  refine ⟨⟨len, lent, fun x o e => ?_, hN, fun x y b n hx hy => ?_, fun x b hb => ?_, fun x b hb => ?_, g2.fh, g2.tab⟩, ⟨fun b o e t n => ?_, fr.there, fun x b hb => ?_, fr.grow, fun b e => ?_⟩⟩
  · rcases own x o e with ⟨z, h1, h2, h3⟩ | ⟨h1, h2, z, h3, h4, h5⟩
    · obtain ⟨v, h5, h6⟩ := g2.own z o h2
      exact ⟨v, h3.trans h5, by rw [hA x z h1]; exact h6⟩
    · obtain ⟨v, h6, h7⟩ := g.own z o h3
      refine ⟨v, h4.trans h6, ?_⟩
      rw [h2, ← h5]
      exact h7.mono fr.grow fun b hb u q => fr.keep b u q (fun ps z => by
        obtain ⟨o, e1, e2⟩ := g.ft _ b hb
        rw [q, z] at e1; cases e1; cases e2) fun y => nU x h1 b (by rw [h2, ← h5]; exact hb) y
  · cases ex : d x with
    | some z =>
      rw [hA x z ex] at hx
      cases ey : d y with
      | some z' =>
        rw [hA y z' ey] at hy
        exact g2.dj z z' b (fun e => n (hd x y z ex (by rw [ey, e]))) hx hy
      | none => exact nZ y z ey b hy hx
    | none =>
      cases ey : d y with
      | some z' =>
        rw [hA y z' ey] at hy
        exact nZ x z' ex b hx hy
      | none => exact g.dj x y b n (hU x ex b hx).1 (hU y ey b hy).1
  · cases ex : d x with
    | some z => rw [hA x z ex] at hb; exact g2.ff z b hb
    | none =>
      cases q : F2 b with
      | none => rfl
      | some u =>
        obtain ⟨h1, h2⟩ := hU x ex b hb
        rcases fr.fnew b (by rw [q]; simp) with e | e | ⟨y, hy⟩
        · exact absurd (g.ff x b h1) e
        · exact absurd h1 (g.notinF e x)
        · exact absurd hy (nU x ex b hb y)
  · cases ex : d x with
    | some z => rw [hA x z ex] at hb; exact g2.ft z b hb
    | none =>
      obtain ⟨o, h1, h2⟩ := g.ft x b (hU x ex b hb).1
      exact ⟨o, fr.keep b o h1 (fun ps z => by rw [z] at h2; cases h2) fun y => nU x ex b hb y, h2⟩
  · exact fr.keep b o e t fun y hy => let ⟨x, _, h2⟩ := cA y b hy; n x h2
  · cases ex : d x with
    | some z =>
      rw [hA x z ex] at hb
      rcases fr.new z b hb with ⟨y, hy⟩ | e
      · obtain ⟨x', _, h2⟩ := cA y b hy
        exact .inl ⟨x', h2⟩
      · exact .inr e
    | none => exact .inl ⟨x, (hU x ex b hb).1⟩
  · rcases fr.fnew b e with e | e | ⟨y, hy⟩
    · exact .inl e
    · exact .inr (.inl e)
    · obtain ⟨x', _, h2⟩ := cA y b hy
      exact .inr (.inr ⟨x', h2⟩)
theorem fill_len : ∀ {as : List (Option Nat)} {rs os : List O} {ρ : Env}, fill as rs ρ = some os → os.length = as.length
  | [], [], _, _, h => by simp [fill] at h; subst h; rfl
  | [], _ :: _, _, _, h => by simp [fill] at h
  | some i :: as, rs, os, ρ, h => by
    unfold fill at h
    split at h
    · split at h
      · rename_i e; cases h; simp [fill_len e]
      · cases h
    · cases h
  | none :: as, [], os, ρ, h => by simp [fill] at h
  | none :: as, r :: rs, os, ρ, h => by
    unfold fill at h
    split at h
    · rename_i e; cases h; simp [fill_len e]
    · cases h
end DL

end

section
set_option Elab.async false
set_option linter.all false
set_option maxRecDepth 100000
namespace DL
open PySem L2 RZ

section
variable {κ : Kx} {A : Fp} {F H : Hp} {ρ : Env} {σ : L2.St} {τ : List O} {υ : List V}
/-- a new object that nobody tracks -/
theorem gJunk (g : G κ A F H ρ σ τ υ) {p : Addr} (o : HO) (h : H p = none) (n : ∀ ps, o ≠ .tbl ps := by intro ps z; cases z) : G κ A F (upd H p o) ρ σ τ υ ∧ Fr A F H A F (upd H p o) := by
  have eH : Same H (upd H p o) := same_new h
  refine ⟨⟨g.len, g.lent, fun x u e => ?_, g.nd, g.dj, g.ff, fun x b hb => ?_, fun b u e => eH b u (g.fh b u e), g.tabs (Same.refl _) (fun b e => .inl e) (fun b u e _ => eH b u e) fun b u e => .inl (g.fh b u e)⟩, Fr.mk' (fun b u e _ => eH b u e) (fun b e => ?_) (tbl_upd n) (fun x _ hb => .inl ⟨x, hb⟩) (Same.refl _) (fun b e => .inl e) g.ft⟩
  · obtain ⟨v, h1, h2⟩ := g.own x u e
    exact ⟨v, h1, h2.mono (Same.refl _) fun b _ o e => eH b o e⟩
  · obtain ⟨u, e, n⟩ := g.ft x b hb
    exact ⟨u, eH b u e, n⟩
  · cases q : H b with
    | none => exact absurd q e
    | some u => rw [eH b u q]; simp
theorem sJunk (g : G κ A F H ρ σ τ υ) {p : Addr} (o : HO) (h : H p = none) (n : ∀ ps, o ≠ .tbl ps := by intro ps z; cases z) {pp : Bool} : G κ A F (upd H p o) ρ σ τ υ ∧ Stp pp ρ A F H ρ A F (upd H p o) :=
  ⟨(gJunk g o h n).1, Stp.refl.then (gJunk g o h n).2 (same_new h) fun _ => rfl⟩
end

def sApp (i : Nat) (m : M D) : MS := fun ρ => match ρ[i]? with
  | some (some (.fd (.ct (.lst _)))) => sBind m (fun d ρ' => match ρ'[i]? with
    | some (some (.fd (.ct (.lst ds)))) => if ds.length < lim then .next (ρ'.set i (some (.lst (ds ++ [d])))) else .bad
    | _ => .bad) ρ
  | _ => .bad
section
variable {X : Cx} {W : WX'} {mu : List Nat} {e : Expr} {p : Bool} {pos : Pos}
theorem dS_app {i : Nat} {st : Stmt} {m : M D} (h : ∀ t, PA X [e] t → PS X st (tDrop (tBM X.K "list" rAppend (tVar i) t))) (he : PE X e (tV (kx X) W p m)) (hs : starEach [e] X.env = (false, eval e X.env) :: starEach [] X.env := by rfl) : PS X st (tS (kx X) W mu (sApp i m)) :=
  ps_imp (h _ (pa_cons he pa_nil hs)) fun E σ H ⟨A, F, ρ, g, h⟩ => by
    unfold sApp at h
    split at h
    · rename_i ds0 e0
      obtain ⟨v0, h0, w0⟩ := g.slot e0
      obtain ⟨a0, vs0, rfl, _, h1, r1⟩ := w0.lst_own
      refine ⟨.ref a0, h0, ?_, A, F, ρ, [], [], g, h.bind.imp fun d ρ1 h v A1 F1 H1 s1 g1 r => ?_⟩
      · exact .inl ⟨rfl, vs0, .inl (.inl h1)⟩
      · split at h
        · rename_i ds1 e1
          obtain ⟨a, vs, h2, h3, h4, h5, w⟩ := g1.writeS (ds' := ds1 ++ [d]) e1
          rw [h0] at h2
          cases h2
          split at h
          · rename_i hl
            obtain ⟨g2, f2⟩ := w (vs ++ [v]) (h5.append (.cons r .nil))
            exact ⟨a0, vs, v, rfl, rfl, h4, by rw [h5.length, ← lim_eq]; exact hl, h _ _ F1 _ (s1.fr.trans f2) g2 fun _ _ => rfl⟩
          · exact h.elim
        · exact h.elim
    · exact h.elim
end
def setAt {κ α : Type} [DecidableEq κ] : List κ → List α → κ → α → List α
  | n :: ns, v :: vs, k, d => (if n = k then d else v) :: setAt ns vs k d
  | _, vs, _, _ => vs
def putKs {κ : Type} [DecidableEq κ] (ks : List κ) (k : κ) : List κ := if k ∈ ks then ks else ks ++ [k]
def putVs {κ α : Type} [DecidableEq κ] (ks : List κ) (vs : List α) (k : κ) (d : α) : List α := if k ∈ ks then setAt ks vs k d else vs ++ [d]
theorem any_mem {κ : Type} [DecidableEq κ] (kvs : List (κ × V)) (k : κ) : (kvs.any fun kv => decide (kv.1 = k)) = true ↔ k ∈ kvs.map (·.1) := by
  simp only [List.any_eq_true, decide_eq_true_eq, List.mem_map]
theorem putK_fst {κ : Type} [DecidableEq κ] (kvs : List (κ × V)) (k : κ) (v : V) : (putK kvs k v).map (·.1) = putKs (kvs.map (·.1)) k := by
  unfold putK putKs
  by_cases h : k ∈ kvs.map (·.1)
  · rw [if_pos ((any_mem kvs k).mpr h), if_pos h, List.map_map]
    apply List.map_congr_left
    intro p _
    show (if p.1 = k then (p.1, v) else p).1 = p.1
    split <;> rfl
  · rw [if_neg (fun z => h ((any_mem kvs k).mp z)), if_neg h]
    simp
theorem setAt_reps {κ : Type} [DecidableEq κ] {κx : Kx} {F : Hp} {v : V} {d : D} (r : Rep κx F v d) (k : κ) : ∀ {kvs : List (κ × V)} {ds : List D}, Reps κx F (kvs.map (·.2)) ds → Reps κx F ((kvs.map fun kv => if kv.1 = k then (kv.1, v) else kv).map (·.2)) (setAt (kvs.map (·.1)) ds k d)
  | [], _, .nil => .nil
  | (n, u) :: kvs, _ :: ds, .cons h hs => by
    simp only [List.map_cons, setAt]
    refine .cons ?_ (setAt_reps r k hs)
    by_cases e : n = k
    · rw [if_pos e, if_pos e]; exact r
    · rw [if_neg e, if_neg e]; exact h
theorem putK_reps {κ : Type} [DecidableEq κ] {κx : Kx} {F : Hp} {v : V} {d : D} (r : Rep κx F v d) (k : κ) {kvs : List (κ × V)} {ds : List D} (h : Reps κx F (kvs.map (·.2)) ds) : Reps κx F ((putK kvs k v).map (·.2)) (putVs (kvs.map (·.1)) ds k d) := by
  unfold putK putVs
  by_cases hk : k ∈ kvs.map (·.1)
  · rw [if_pos ((any_mem kvs k).mpr hk), if_pos hk]
    exact setAt_reps r k h
  · rw [if_neg (fun z => hk ((any_mem kvs k).mp z)), if_neg hk, List.map_append]
    exact h.append (.cons r .nil)
def putO (o : O) (k d : D) : Option O := match o, k with
  | .fd (.ct (.dk ks vs)), k => match keyD k with
    | some k => if ks.length < lim then some (.fd (.ct (.dk (putKs ks k) (putVs ks vs k d)))) else none
    | none => none
  | .fd (.ct (.dt ks vs)), .tup k => match keysD k with
    | some k => if ks.length < lim then some (.fd (.ct (.dt (putKs ks k) (putVs ks vs k d)))) else none
    | none => none
  | _, _ => none
def sPut (i : Nat) (mk mv : M D) : MS := sBind mv fun d ρ => match ρ[i]? with
  | some (some _) => sBind mk (fun k ρ' => match ρ'[i]? with
    | some (some o) => match putO o k d with
      | some o' => .next (ρ'.set i (some o'))
      | none => .bad
    | _ => .bad) ρ
  | _ => .bad
theorem Own.ct_v {κ : Kx} {F H : Hp} {c : Ct} {v : V} {S : List Addr} (w : Own κ F H (.fd (.ct c)) v S) : ∃ a, v = .ref a ∧ S = [a] ∧ OwnC κ F H c a := by
  cases w with
  | fd w => cases w with
    | ct w => exact ⟨_, rfl, rfl, w⟩
/-- a slot's one cell changes -/
theorem gPutS {κ : Kx} {A : Fp} {F H : Hp} {ρ : Env} {σ : L2.St} {τ : List O} {υ : List V} {c c' : Ct} {i : Nat} {a : Addr} {u : HO} (g : G κ A F H ρ σ τ υ) (h : ρ[i]? = some (some (.fd (.ct c)))) (hv : σ[i]? = some (some (.ref a))) (w : OwnC κ F (upd H a u) c' a) :
    G κ A F (upd H a u) (ρ.set i (some (.fd (.ct c')))) σ τ υ ∧ Fr A F H A F (upd H a u) := by
  obtain ⟨v, h1, h2⟩ := g.slot h
  obtain ⟨b, rfl, hS, _⟩ := h2.ct_v
  rw [hv] at h1; cases h1
  have hi : i < ρ.length := by
    rcases Nat.lt_or_ge i ρ.length with q | q
    · exact q
    · rw [List.getElem?_eq_none q] at h; cases h
  have q := g.write1 (ρ' := ρ.set i (some (.fd (.ct c')))) (τ' := τ) (x := .s i) (o := .fd (.ct c)) (o' := .fd (.ct c')) (a := a) (u := u) (by simp) rfl (by simp [atO, h]) (by rw [hS]; simp) (fun o e => by simp [atO, hi] at e; exact e.symm)
    (fun y o n e => by
      cases y with
      | t k => exact e
      | s j =>
        have hj : j ≠ i := fun z => n (by rw [z])
        simp only [atO] at e ⊢
        rw [List.getElem?_set_ne (Ne.symm hj)] at e
        exact e) (v := .ref a) (by simp [atV, hv]) (by rw [hS]; exact .fd (.ct w))
  rw [upA_id] at q
  exact q
section
variable {X : Cx} {W : WX'} {mu : List Nat} {e k : Expr} {p q : Bool} {pos : Pos}
theorem dS_put {i : Nat} {st : Stmt} {x : Str} {px : Pos} {mk mv : M D} (h : ∀ td ty tv, PE X (.Name x px) td → PE X k ty → PE X e tv → PS X st (sDPut td ty tv)) (hx : PE X (.Name x px) (tVar i)) (hk : PE X k (tV (kx X) W p mk)) (he : PE X e (tV (kx X) W q mv)) : PS X st (tS (kx X) W mu (sPut i mk mv)) :=
  ps_imp (h _ _ _ hx hk he) fun E σ H ⟨A, F, ρ, g, h⟩ => ⟨A, F, ρ, [], [], g, h.bind.imp fun d ρ1 h v A1 F1 H1 s1 g1 r1 => by
    split at h
    · rename_i o0 e0
      obtain ⟨v0, h0, w0⟩ := g1.slot e0
      refine ⟨v0, h0, A1, F1, ρ1, [], [], g1, (PsO.bind h).step s1.fr |>.imp fun k ρ2 h y A2 F2 H2 s2 g2 r2 => ?_⟩
      split at h
      · rename_i o1 e1
        split at h
        · rename_i o' eo
          unfold putO at eo
          split at eo
          · rename_i ks vs kd
            split at eo
            · rename_i k' ek
              split at eo
              · rename_i hl
                cases eo
                obtain ⟨v2, h2, w2⟩ := g2.slot e1
                rw [h0] at h2; cases h2
                obtain ⟨a, rfl, _, kvs, h3, rfl, h5⟩ := w2.ct_v
                have hk := key_v r2 ek
                subst hk
                have hv' := r1.mono s2.fr.grow
                obtain ⟨g3, f3⟩ := gPutS (c' := .dk (putKs (kvs.map (·.1)) k') (putVs (kvs.map (·.1)) _ k' d)) (u := .dK (putK kvs k' v)) g2 e1 h0 ⟨putK kvs k' v, upd_same, putK_fst kvs k' v, putK_reps hv' k' h5⟩
                exact ⟨a, _, rfl, DPut.k h3 (by rw [← lim_eq]; simpa using hl), h _ _ F2 _ ((s1.fr.trans s2.fr).trans f3) g3 fun _ _ => rfl⟩
              · cases eo
            · cases eo
          · rename_i ks vs kd
            split at eo
            · rename_i k' ek
              split at eo
              · rename_i hl
                cases eo
                obtain ⟨v2, h2, w2⟩ := g2.slot e1
                rw [h0] at h2; cases h2
                obtain ⟨a, rfl, _, kvs, h3, rfl, h5⟩ := w2.ct_v
                obtain ⟨b, ws, rfl, hb, rb⟩ := r2.tup_v
                have hk := keys_v rb ek
                subst hk
                have hv' := r1.mono s2.fr.grow
                obtain ⟨g3, f3⟩ := gPutS (c' := .dt (putKs (kvs.map (·.1)) k') (putVs (kvs.map (·.1)) _ k' d)) (u := .dT (putK kvs k' v)) g2 e1 h0 ⟨putK kvs k' v, upd_same, putK_fst kvs k' v, putK_reps hv' k' h5⟩
                exact ⟨a, _, rfl, DPut.t h3 (g2.fh _ _ hb) (by rw [← lim_eq]; simpa using hl), h _ _ F2 _ ((s1.fr.trans s2.fr).trans f3) g3 fun _ _ => rfl⟩
              · cases eo
            · cases eo
          · cases eo
        · exact h.elim
      · exact h.elim
    · exact h.elim⟩
end
def tPD (κ : Kx) (W : WX') (m : M (List (D × D))) (σ : L2.St) (H : Hp) (Q : List (V × V) → Hp → Prop) : Prop := ∃ A F ρ τ υ, G κ A F H ρ σ τ υ ∧ Wp κ W A F H σ τ υ (m ρ) fun ds ρ' => ∀ ps A' F' H', Fr A F H A' F' H' → G κ A' F' H' ρ' σ τ υ →
  Reps κ F' (ps.map (·.1)) (ds.map (·.1)) → Reps κ F' (ps.map (·.2)) (ds.map (·.2)) → Q ps H'
def DP (X : Cx) (W : WX') (pos : Pos) (ks : List (Option Expr)) (vs : List Expr) (m : M (List (D × D))) : Prop := ∃ trs, PPs X pos ks vs trs ∧ ∀ σ H Q, tPD (kx X) W m σ H Q → tPairs trs σ H Q
def mConsP (mk mv : M D) (ms : M (List (D × D))) : M (List (D × D)) := mBind mk fun k => mBind mv fun v => mBind ms fun ds => mPure ((k, v) :: ds)
theorem dP_nil {X : Cx} {W : WX'} {pos : Pos} : DP X W pos [] [] (mPure []) := ⟨[], pps_nil, fun σ H Q ⟨A, F, ρ, τ, υ, g, h⟩ => h [] A F H .refl g .nil .nil⟩
theorem dP_cons {X : Cx} {W : WX'} {pos : Pos} {k v : Expr} {ks : List (Option Expr)} {vs : List Expr} {p q : Bool} {mk mv : M D} {ms : M (List (D × D))} (hk : PE X k (tV (kx X) W p mk)) (hv : PE X v (tV (kx X) W q mv)) (hr : DP X W pos ks vs ms) : DP X W pos (some k :: ks) (v :: vs) (mConsP mk mv ms) := by
  obtain ⟨trs, h, i⟩ := hr
  refine ⟨_, pps_cons hk hv h, fun σ H Q ⟨A, F, ρ, τ, υ, g, h⟩ => ⟨A, F, ρ, τ, υ, g, h.bind.imp fun dk ρ1 h x A1 F1 H1 s1 g1 r1 => ⟨A1, F1, ρ1, τ, υ, g1, (h.step s1.fr).bind.imp fun dv ρ2 h y A2 F2 H2 s2 g2 r2 => i _ _ _ ⟨A2, F2, ρ2, τ, υ, g2, (h.step s2.fr).bind.imp fun ds ρ3 h ps A3 F3 H3 f3 g3 r3 r4 =>
    h ((x, y) :: ps) A3 F3 H3 ((s1.fr.trans s2.fr).trans f3) g3 (.cons (r1.mono (s2.fr.grow.trans f3.grow)) r3) (.cons (r2.mono f3.grow) r4)⟩⟩⟩⟩
def mDisp (m : M (List (D × D))) : M O := mBind m fun ds => match keysD (ds.map (·.1)) with
  | some ks => if ks.Nodup ∧ ds.length ≤ 15 then mPure (.fd (.ct (.dk ks (ds.map (·.2))))) else fun _ => .bad
  | none => fun _ => .bad
theorem mergeK_nd : ∀ {more kvs : List (Key × V)}, ((kvs ++ more).map (·.1)).Nodup → mergeK kvs more = kvs ++ more
  | [], kvs, _ => by simp [mergeK]
  | p :: more, kvs, h => by
    have hp : p.1 ∉ kvs.map (·.1) := fun z => by
      simp only [List.map_append, List.map_cons] at h
      exact (List.nodup_append.mp h).2.2 _ z _ (by simp) rfl
    have e : putK kvs p.1 p.2 = kvs ++ [p] := by
      unfold putK
      rw [if_neg (fun z => hp ((any_mem kvs p.1).mp z))]
    show mergeK (putK kvs p.1 p.2) more = _
    rw [e, mergeK_nd (by simpa using h)]
    simp
theorem pairs_of {κ : Kx} {F : Hp} : ∀ {ps : List (V × V)} {ds : List (D × D)} {ks : List Key}, Reps κ F (ps.map (·.1)) (ds.map (·.1)) → keysD (ds.map (·.1)) = some ks → ∃ kvs : List (Key × V), ps = kvs.map (fun kv => (kV kv.1, kv.2)) ∧ kvs.map (·.1) = ks ∧ kvs.map (·.2) = ps.map (·.2) := by
  intro ps ds ks r e
  have h := keys_v r e
  refine ⟨ks.zip (ps.map (·.2)), ?_, ?_, ?_⟩
  · clear r e
    induction ps generalizing ks with
    | nil => cases ks <;> simp at h ⊢
    | cons p ps ih => cases ks with
      | nil => simp at h
      | cons k ks => simp at h ⊢; exact ⟨by rw [← h.1], by simpa using ih h.2⟩
  · have hl : ks.length = (ps.map (·.2)).length := by have := congrArg List.length h; simp at this ⊢; omega
    exact List.map_fst_zip (Nat.le_of_eq hl)
  · have hl : ks.length = (ps.map (·.2)).length := by have := congrArg List.length h; simp at this ⊢; omega
    exact List.map_snd_zip (Nat.le_of_eq hl.symm)
theorem dE_disp {X : Cx} {W : WX'} {pos : Pos} {ks : List (Option Expr)} {vs : List Expr} {m : M (List (D × D))} (h : DP X W pos ks vs m) (hall : ks.all (·.isSome) = true := by rfl) (hl : ks.length = vs.length := by rfl) (h0 : ks ≠ [] := by nofun) (h15 : ks.length ≤ 15 := by decide) :
    PE X (.Dict ks vs pos) (tE (kx X) W false (mDisp m)) := by
  obtain ⟨trs, hp, i⟩ := h
  refine pe_imp (pe_disp hp hall hl h0 h15) fun σ H Q ⟨A, F, ρ, τ, υ, g, h⟩ p hpn => ?_
  obtain ⟨g1, f1⟩ := g.pushNew (r := .fd (.ct (.dk [] []))) (o := .dK []) hpn rfl (.fd (.ct ⟨[], upd_same, rfl, .nil⟩))
  refine i _ _ _ ⟨_, F, ρ, _, _, g1, ((h.bind.step f1).pop).imp fun ds ρ1 h ps A2 F2 H2 f2 g2 r1 r2 => ?_⟩
  have hlu : τ.length = υ.length := g.lent
  obtain ⟨u, h3, h4⟩ := g2.own (.t τ.length) _ atO_top
  rw [hlu, atV_top] at h3; cases h3
  obtain ⟨b, eb, hS, kvs0, h5, h6, h7⟩ := h4.ct_v
  cases eb
  have hk0 : kvs0 = [] := by simpa using h6
  subst hk0
  refine ⟨h5, ?_⟩
  cases ek : keysD (ds.map (·.1)) with
  | none => rw [ek] at h; exact h.elim
  | some ks1 =>
    rw [ek] at h
    simp only at h
    split at h
    · rename_i hc
      obtain ⟨kvs, e1, e2, e3⟩ := pairs_of r1 ek
      have hlen : kvs.length ≤ 15 := by
        have q := r2.length
        rw [List.length_map, List.length_map] at q
        have q2 := congrArg List.length e3
        rw [List.length_map, List.length_map] at q2
        omega
      refine ⟨kvs, e1, hlen, ?_⟩
      rw [mergeK_nd (kvs := []) (by simpa [e2] using hc.1), List.nil_append]
      have q := g2.write1 (ρ' := ρ1) (τ' := τ ++ [.fd (.ct (.dk ks1 (ds.map (·.2))))]) (x := .t τ.length) (o := .fd (.ct (.dk [] []))) (o' := .fd (.ct (.dk ks1 (ds.map (·.2))))) (a := p) (u := .dK kvs) rfl (by simp) atO_top (by rw [hS]; simp) (fun o e => by rw [atO_top] at e; cases e; rfl)
        (fun y o n e => by rw [atO_app n] at e ⊢; exact e) (v := .ref p) (by rw [hlu]; exact atV_top) (by rw [hS]; exact .fd (.ct ⟨kvs, upd_same, e2, by rw [e3]; exact r2⟩))
      exact h _ _ F2 _ (.no ((f1.trans f2).trans q.2)) q.1
    · exact h.elim
end DL

end

section
set_option Elab.async false
set_option linter.all false
set_option maxRecDepth 100000
namespace DL
open PySem L2 RZ

/-- the left operand is a slot, read when the operation is done -/
def mOpN (i : Nat) (f : D → D → Option O) (mb : M (Option Nat × O)) : M O := fun ρ => match ρ[i]? with
  | some (some _) => mBind mb (fun y ρ' => match ρ'[i]? with
    | some (some o) => match f o.toD y.2.toD with
      | some r => .ok r ρ'
      | none => .bad
    | _ => .bad) ρ
  | _ => .bad
/-- the left operand is new, kept on the stack -/
def mOpS (f : D → D → Option O) (ma : M O) (mb : M (Option Nat × O)) : M O := mBind ma fun x => mBind mb fun y => match f x.toD y.2.toD with
  | some r => mPure r
  | none => fun _ => .bad
section
variable {X : Cx} {κ : Kx} {W : WX'} {a b : Expr} {pa pb : Bool} {ma : M O} {mb : M (Option Nat × O)} {pos : Pos} {r : R2} {f : D → D → Option O}
theorem tOp_ofN {i : Nat} (hs : Op2 κ r f) {σ : L2.St} {H : Hp} {Q : VK} (h : tE κ W false (mOpN i f mb) σ H Q) : tOp r (tVar i) (tB κ W pb mb) σ H Q := by
  obtain ⟨A, F, ρ, τ, υ, g, h⟩ := h
  unfold mOpN at h
  split at h
  · rename_i o0 e0
    obtain ⟨v1, h1, w1⟩ := g.slot e0
    refine ⟨v1, h1, A, F, ρ, τ, υ, g, h.bind.imp fun y ρ2 h v2 B2 A2 F2 H2 f2 g2 w2 _ => ?_⟩
    split at h
    · rename_i o e
      obtain ⟨v1', h1', w1'⟩ := g2.slot e
      rw [h1] at h1'; cases h1'
      cases e3 : f o.toD y.2.toD with
      | none => rw [e3] at h; exact h.elim
      | some z =>
        rw [e3] at h
        refine hs A2 F2 H2 ρ2 σ τ υ g2 o y.2 v1 v2 _ B2 w1' w2 z e3 Q fun v H3 ⟨A3, F3, f3, g3⟩ => ?_
        exact h v A3 F3 H3 (.no (f2.fr.trans f3.fr)) g3
    · exact h.elim
  · exact h.elim
theorem tOp_ofS (hs : Op2 κ r f) {σ : L2.St} {H : Hp} {Q : VK} (h : tE κ W false (mOpS f ma mb) σ H Q) : tOp r (tE κ W pa ma) (tB κ W pb mb) σ H Q := by
  obtain ⟨A, F, ρ, τ, υ, g, h⟩ := h
  refine ⟨A, F, ρ, τ, υ, g, h.bind.imp fun x ρ1 h v1 A1 F1 H1 s1 g1 => ?_⟩
  refine ⟨A1, F1, ρ1, τ ++ [x], υ ++ [v1], g1, ((h.step s1.fr).bind.pop).imp fun y ρ2 h v2 B2 A2 F2 H2 s2 g2 w2 _ => ?_⟩
  obtain ⟨g3, w1, f3⟩ := g2.pop
  cases e3 : f x.toD y.2.toD with
  | none => rw [e3] at h; exact h.elim
  | some z =>
    rw [e3] at h
    exact hs _ F2 H2 ρ2 σ τ υ g3 x y.2 v1 v2 _ B2 w1 w2 z e3 Q fun v H4 ⟨A4, F4, s4, g4⟩ => h v A4 F4 H4 (.no (((s1.fr.trans s2.fr).trans f3).trans s4.fr)) g4
theorem de_opN {i : Nat} {op : Operator} (ho : OpR X (binaryOp op) r) (hs : Op2 κ r f) (ha : PE X a (tVar i)) (hb : PE X b (tB κ W pb mb)) : PE X (.BinOp a op b pos) (tE κ W false (mOpN i f mb)) :=
  pe_imp (pe_op ho ha hb) fun _ _ _ h => tOp_ofN hs h
theorem de_opS {op : Operator} (ho : OpR X (binaryOp op) r) (hs : Op2 κ r f) (ha : PE X a (tE κ W pa ma)) (hb : PE X b (tB κ W pb mb)) : PE X (.BinOp a op b pos) (tE κ W false (mOpS f ma mb)) :=
  pe_imp (pe_op ho ha hb) fun _ _ _ h => tOp_ofS hs h
theorem de_cmpN {i : Nat} {op : CmpOp} (ho : OpR X (compareOp op) r) (hs : Op2 κ r f) (ha : PE X a (tVar i)) (hb : PE X b (tB κ W pb mb)) (hm : behindInMarks op b = false) : PE X (.Compare a [op] [b] pos) (tE κ W false (mOpN i f mb)) :=
  pe_imp (pe_cmpR ho ha hb hm) fun _ _ _ h => tOp_ofN hs h
theorem de_cmpS {op : CmpOp} (ho : OpR X (compareOp op) r) (hs : Op2 κ r f) (ha : PE X a (tE κ W pa ma)) (hb : PE X b (tB κ W pb mb)) (hm : behindInMarks op b = false) : PE X (.Compare a [op] [b] pos) (tE κ W false (mOpS f ma mb)) :=
  pe_imp (pe_cmpR ho ha hb hm) fun _ _ _ h => tOp_ofS hs h
theorem tE_bl {p : Bool} {m : M O} {σ : L2.St} {H : Hp} {Q : Bool → Hp → Prop} (h : tT κ W p (mBl m) σ H Q) : tE κ W p m σ H (fun x H1 => ∃ c, x = .bl c ∧ Q c H1) := by
  obtain ⟨A, F, ρ, τ, υ, g, h⟩ := h
  exact ⟨A, F, ρ, τ, υ, g, h.bind.imp fun o ρ' h v A' F' H' s g' => by
    split at h
    · rename_i b
      obtain ⟨rfl, A2, g2, s2⟩ := bl_top g'
      exact ⟨b, rfl, h A2 F' H' ((s.trans s2).imp fun z => by rw [z]; rfl) g2⟩
    · exact h.elim⟩
theorem dT_cmpN {i : Nat} {op : CmpOp} (ho : OpR X (compareOp op) r) (hs : Op2 κ r f) (ha : PE X a (tVar i)) (hb : PE X b (tB κ W pb mb)) (hm : behindInMarks op b = false) : PT X (.Compare a [op] [b] pos) (tT κ W false (mBl (mOpN i f mb))) :=
  pt_imp (pt_cmpR ho ha hb hm) fun _ _ _ h => tOp_ofN hs (tE_bl h)
theorem dT_cmpS {op : CmpOp} (ho : OpR X (compareOp op) r) (hs : Op2 κ r f) (ha : PE X a (tE κ W pa ma)) (hb : PE X b (tB κ W pb mb)) (hm : behindInMarks op b = false) : PT X (.Compare a [op] [b] pos) (tT κ W false (mBl (mOpS f ma mb))) :=
  pt_imp (pt_cmpR ho ha hb hm) fun _ _ _ h => tOp_ofS hs (tE_bl h)
end

def tyN : D → Option String
  | .non => some "NoneType"
  | .bl _ => some "bool"
  | .int _ => some "int"
  | .str _ => some "str"
  | .tup _ => some "tuple"
  | .lst _ => some "list"
  | .dk _ _ => some "dict"
  | .dt _ _ => some "dict"
  | _ => none
theorem ty_of {κ : Kx} {H : Hp} {v : V} {d : D} {t : String} (r : Rep κ H v d) (e : tyN d = some t) : TyX κ.K H v (.type t) := by
  cases r with
  | non => cases e; exact .base .non
  | bl b => cases e; exact .base (.bl b)
  | int i => cases e; exact .base (.int i)
  | str x => cases e; exact .base (.str x)
  | tup h r => cases e; exact .base (.tup h)
  | lst h r => cases e; exact .base (.lst h)
  | fz h r => cases e
  | dk h r => cases e; exact .base (.dK h)
  | dt h r => cases e; exact .base (.dT h)
  | ob _ _ _ => cases e
def isiT (t : String) : List String → Option Bool
  | [] => some false
  | T :: Ts => match kitB t T with
    | some true => some true
    | some false => isiT t Ts
    | none => none
def isiD (Ts : List String) (d : D) : Option Bool := match tyN d with
  | some t => isiT t Ts
  | none => none
def mIsi (Ts : List String) (m : M (Option Nat × O)) : M D := mBind m fun x => match isiD Ts x.2.toD with
  | some b => mPure (.bl b)
  | none => fun _ => .bad
theorem isiT_any {K : PySem.W.Frag} {t : String} : ∀ {Ts : List String} {b : Bool}, isiT t Ts = some b → PySem.W.kitAny K (.type t) (Ts.map Value.type) = some b
  | [], b, e => by cases e; rfl
  | T :: Ts, b, e => by
    unfold isiT at e
    cases q : kitB t T with
    | none => rw [q] at e; cases e
    | some c =>
      rw [q] at e
      cases c with
      | true => cases e; exact kitAny_cons (kit_ty q) nofun fun _ => rfl
      | false => exact kitAny_cons (kit_ty q) (fun _ => isiT_any e) nofun
section
variable {X : Cx} {W : WX'} {e : Expr} {p : Bool} {m : M (Option Nat × O)}
theorem dV_isi1 {T : String} {c st : Expr} (h : ∀ t, PA X [e, c] t → PE X st (tCB (rIsi X.K) t)) (he : PE X e (tB (kx X) W p m)) (hc : PE X c (tC (.ty T)))
    (hs1 : starEach (e :: [c]) X.env = (false, eval e X.env) :: starEach [c] X.env := by rfl) (hs2 : starEach (c :: []) X.env = (false, eval c X.env) :: starEach [] X.env := by rfl) : PE X st (tV (kx X) W p (mIsi [T] m)) :=
  pe_imp (h _ (pa_cons he (pa_cons hc pa_nil hs2) hs1)) fun σ H Q ⟨A, F, ρ, τ, υ, g, h⟩ => ⟨A, F, ρ, τ, υ, g, h.bind.imp fun x ρ1 h v B A1 F1 H1 s1 g1 w _ => by
    cases ei : isiD [T] x.2.toD with
    | none => rw [ei] at h; exact h.elim
    | some b =>
      rw [ei] at h
      unfold isiD at ei
      split at ei
      · rename_i t et
        refine ⟨v, .ty T, .type t, .type T, b, rfl, .ty T, ty_of (w.repH g1.fh) et, ?_, h _ A1 F1 H1 s1 g1 (.bl _)⟩
        unfold isiT at ei
        cases q : kitB t T with
        | none => rw [q] at ei; cases ei
        | some c => rw [q] at ei; cases c <;> cases ei <;> exact kit_ty q
      · cases ei⟩
theorem dV_isi2 {T T2 : String} {c d st : Expr} {kk : Nat} {tpos : Pos} (h : ∀ t, PA X [e, .Tuple [c, d] kk tpos] t → PE X st (tCB (rIsiT X.K) t)) (he : PE X e (tB (kx X) W p m)) (hc : PE X c (tC (.ty T))) (hd : PE X d (tC (.ty T2)))
    (hs1 : starEach (e :: [.Tuple [c, d] kk tpos]) X.env = (false, eval e X.env) :: starEach [.Tuple [c, d] kk tpos] X.env := by rfl) (hs2 : starEach (.Tuple [c, d] kk tpos :: []) X.env = (false, eval (.Tuple [c, d] kk tpos) X.env) :: starEach [] X.env := by rfl)
    (hs3 : starEach (c :: [d]) X.env = (false, eval c X.env) :: starEach [d] X.env := by rfl) (hs4 : starEach (d :: []) X.env = (false, eval d X.env) :: starEach [] X.env := by rfl) : PE X st (tV (kx X) W p (mIsi [T, T2] m)) :=
  pe_imp (h _ (pa_cons he (pa_cons (pe_tup (pa_cons hc (pa_cons hd pa_nil hs4) hs3)) pa_nil hs2) hs1)) fun σ H Q ⟨A, F, ρ, τ, υ, g, h⟩ => ⟨A, F, ρ, τ, υ, g, h.bind.imp fun x ρ1 h v B A1 F1 H1 s1 g1 w _ => by
    cases ei : isiD [T, T2] x.2.toD with
    | none => rw [ei] at h; exact h.elim
    | some b =>
      rw [ei] at h
      unfold isiD at ei
      split at ei
      · rename_i t et
        refine ⟨by show 2 ≤ sizeLine; decide, fun a ha => ?_⟩
        obtain ⟨g2, s2⟩ := sJunk (pp := p) g1 (.tup [.ty T, .ty T2]) ha
        exact ⟨v, a, _, .type t, [.type T, .type T2], b, rfl, upd_same, .cons (.ty T) (.cons (.ty T2) .nil), ty_of ((w.repH g1.fh).mono (same_new ha)) et, isiT_any (Ts := [T, T2]) ei, h _ A1 F1 _ ((s1.trans s2).imp fun z => by rw [z]; rfl) g2 (.bl _)⟩
      · cases ei⟩
end
end DL

end

section
set_option Elab.async false
set_option linter.all false
set_option maxRecDepth 100000
namespace L2
open PySem PySem.Spec PyProof.Rows
section
variable {P : Program} {w : World} {A : Around} {E : Value → Shared → Prop} {s : Shared}
end
section
variable {X : Cx}
end
end L2

end

section
set_option Elab.async false
set_option linter.all false
set_option maxRecDepth 100000
set_option maxHeartbeats 4000000
namespace PyProof.Rows
open PySem
section
variable {prog : Program} {w : World} {A : Around} {E : Value → Shared → Prop} {s : Shared} {a kS : Addr} {vs : List Value} {kz : List Int} {keys : Array Value} {e e1 : Nat} {P : PySem.Fin → Shared → Prop}
end
section
variable {prog : Program} {w : World} {A : Around} {E : Value → Shared → Prop} {s : Shared} {l : Addr} {vs : List Value} {Q : Value → Shared → Prop}
end
end PyProof.Rows
namespace L2
open PySem PySem.Spec PyProof.Rows
section
variable {X : Cx} {e : Expr} {t : TA} {p pa pos kpos : Pos}
end
end L2

end

section
set_option Elab.async false
set_option linter.all false
set_option maxRecDepth 100000
namespace DL
open PySem L2 RZ

theorem reps_ints {κ : Kx} {F : Hp} : ∀ (ns : List Int), Reps κ F (ns.map V.int) (ns.map D.int)
  | [] => .nil
  | n :: ns => .cons (.int n) (reps_ints ns)
def mOp1 (f : D → Option O) (m : M (Option Nat × O)) : M O := mBind m fun x => match f x.2.toD with
  | some o => mPure o
  | none => fun _ => .bad
section
variable {X : Cx} {W : WX'} {e st : Expr} {p : Bool} {m : M (Option Nat × O)}
end
end DL

end

section
set_option Elab.async false
set_option linter.all false
set_option maxRecDepth 100000
namespace DL
open PySem L2 RZ PyProof.Rows

section
variable {X : Cx} {κ : Kx} {W : WX'} {a b c e : Expr} {p q s : Bool} {pos : Pos}
theorem dV_no {m : M D} (h : PE X e (tV κ W p m)) : PE X e (tV κ W false m) := pe_imp h fun σ H Q ⟨A, F, ρ, τ, υ, g, h⟩ =>
  ⟨A, F, ρ, τ, υ, g, h.imp fun r ρ' h v A' F' H' s g' => h v A' F' H' (.no s.fr) g'⟩
def bO : Option O → M Bool
  | some (.fd (.sh (.bl k))) => mPure k
  | _ => fun _ => .bad
def mChain (f f' : D → D → Option O) (ma mb mc : M D) : M Bool := mBind ma fun x => mBind mb fun y => mBind (bO (f x y)) fun k => if k then mBind mc fun z => bO (f' y z) else mPure false
end

def mSubN (i : Nat) (mb : M D) : M (Option Nat × O) := fun ρ => match ρ[i]? with
  | some (some _) => mBind mb (fun k ρ' => match ρ'[i]? with
    | some (some o) => match itemOf (some i, o) k with
      | some y => .ok y ρ'
      | none => .bad
    | _ => .bad) ρ
  | _ => .bad
def nowD (mb : M D) (i : Nat) (ρ : Env) : Bool := match mb ρ with
  | .ok _ ρ' => match ρ'[i]? with
    | some (some o) => isDict o
    | _ => false
  | _ => false
section
variable {X : Cx} {W : WX'} {b : Expr} {p pb : Bool} {mb : M D} {pos px : Pos} {x : Str} {i : Nat}
theorem tSubN_of {κ : Kx} {r : R2} (P : O → Prop) {σ : L2.St} {H : Hp} {Q : VK}
    (hr : ∀ (A : Fp) (F H : Hp) (ρ : Env) (σ : L2.St) (τ : List O) (υ : List V), G κ A F H ρ σ τ υ → ∀ (z : Option Nat) (o : O) (v : V) (B : List Addr), Own κ F H o v B → Src ρ A z B → P o → ∀ (y : V) (k : D), Rep κ H y k → ∀ x, itemOf (z, o) k = some x → ∀ Q : VK, (∀ u S, Own κ F H x.2 u S → Src ρ A x.1 S → Q u H) → r v y H Q)
    {A : Fp} {F : Hp} {ρ : Env} {τ : List O} {υ : List V} (g : G κ A F H ρ σ τ υ) (hP : ∀ k ρ1 o, mb ρ = .ok k ρ1 → ρ1[i]? = some (some o) → P o)
    (h : Wp κ W A F H σ τ υ (mSubN i mb ρ) fun r ρ' => ∀ v B A' F' H', Stp false ρ A F H ρ' A' F' H' → G κ A' F' H' ρ' σ τ υ → Own κ F' H' r.2 v B → Src ρ' A' r.1 B → Q v H') : tOp r (tVar i) (tV κ W pb mb) σ H Q := by
  unfold mSubN at h
  split at h
  · rename_i o0 e0
    obtain ⟨v1, h1, w1⟩ := g.slot e0
    refine ⟨v1, h1, A, F, ρ, τ, υ, g, ?_⟩
    have h2 := h.bind
    cases e1 : mb ρ with
    | bad => rw [e1] at h2; exact h2.elim
    | exc d ρ1 => rw [e1] at h2; exact h2
    | ok k ρ1 =>
      rw [e1] at h2
      intro v2 A2 F2 H2 s2 g2 r2
      have h2 : Wp κ W A F H σ τ υ (match ρ1[i]? with
        | some (some o) => match itemOf (some i, o) k with
          | some y => .ok y ρ1
          | none => .bad
        | _ => .bad) _ := h2
      split at h2
      · rename_i o eo
        obtain ⟨v1', h1', w1'⟩ := g2.slot eo
        rw [h1] at h1'; cases h1'
        cases e3 : itemOf (some i, o) k with
        | none => rw [e3] at h2; exact h2.elim
        | some y =>
          rw [e3] at h2
          exact hr A2 F2 H2 ρ1 σ τ υ g2 (some i) o v1 _ w1' (fun b hb => ⟨⟨o, eo, by
            cases q : isSh o with
            | false => rfl
            | true =>
              obtain ⟨d, rfl, _⟩ := isSh_v q w1'
              rw [w1'.sh_nil] at hb
              simp at hb⟩, hb⟩) (hP k ρ1 o e1 eo) v2 k (r2.mono g2.fh) y e3 Q fun u S w3 s3 => h2 u S A2 F2 H2 (.no s2.fr) g2 w3 s3
      · exact h2.elim
  · exact h.elim
theorem dB_subN (hu : X.A.units + 1 < cLine) (ha : PE X (.Name x px) (tVar i)) (hb : PE X b (tV (kx X) W pb mb)) (hs : PlainIx b) (hs' : NoSl b) : PE X (.Subscript (.Name x px) b pos) (tB (kx X) W false (mSubN i mb)) :=
  pe_imp (pe_either (pe_ix ix_seq ha hb hs) (pe_dget hu ha hb hs')) fun σ H Q ⟨A, F, ρ, τ, υ, g, h⟩ => by
    cases hd : nowD mb i ρ with
    | false =>
      refine .inl (tSubN_of (fun o => isDict o = false) (fun A F H ρ σ τ υ g z o v B w sr hp y k ry x e Q q => item_of g w ry hp e q) g (fun k ρ1 o e1 eo => ?_) h)
      unfold nowD at hd
      rw [e1] at hd
      simp only [eo] at hd
      exact hd
    | true =>
      refine .inr (tSubN_of (r := fun x y H Q => ∃ a v, x = .ref a ∧ DGet H a y (some v) ∧ Q v H) (fun o => isDict o = true) (fun A F H ρ σ τ υ g z o v B w sr hp y k ry x e Q q => by
        obtain ⟨a, u, S, h1, h2, h3, h4⟩ := dget_of g w sr ry hp e
        exact ⟨a, u, h1, h2, q u S h3 h4⟩) g (fun k ρ1 o e1 eo => ?_) h)
      unfold nowD at hd
      rw [e1] at hd
      simp only [eo] at hd
      exact hd
end

section
variable {X : Cx} {W W' : WX'} {elt tg iter : Expr} {ifs : List Expr} {scope : Scope} {own : List (Str × Nat)} {pos : Pos} {p pt pe : Bool} {ts mu : List Nat} {src : M (List D)} {b : Bn} {t : M Bool} {m : M D}
theorem dE_lc (hc : X.calm = true) (hN : X.N.Nodup) (ok : BlkOk X.N X.env.scope scope own) (hi : PI X tg iter (tIt (kx X) W p src))
    (hg : ∀ (s : Shared) (H : Hp) (C : Addr) (cl : List (Str × Addr)) (fp : List Addr), PG (X.blk s H scope (compEnvC scope cl C X.env) fp) tg (tBn (kx X) ts b))
    (ht : ∀ (s : Shared) (H : Hp) (C : Addr) (cl : List (Str × Addr)) (fp : List Addr), PTs (X.blk s H scope (compEnvC scope cl C X.env) fp) ifs (tT (kx X) W' pt t))
    (he : ∀ (s : Shared) (H : Hp) (C : Addr) (cl : List (Str × Addr)) (fp : List Addr), PE (X.blk s H scope (compEnvC scope cl C X.env) fp) elt (tV (kx X) W' pe m))
    (hs : ∀ i ∈ ts, i ∈ own.map (·.2) := by decide) (hf : ∀ x, foldedSetIterable iter X.env x = pure x := by intro _; rfl) :
    PE X (.ListComp elt [⟨tg, iter, ifs, 0⟩] scope pos) (tE (kx X) W false (mLc (own.map (·.2)) src b t m)) :=
  pe_imp (pe_lc hc hN hi ok hg ht he hf) fun _ _ _ h => tLc_of hs (fun _ _ _ z => z) h
end

/-- law's promise: a row of at most 63 ints is handed in, True comes out -/
def spLaw (K : PySem.W.Frag) : Sp := fun vs H Q _ => ∃ (a : Addr) (ns : List Int), vs = [.ref a] ∧ SqL K H a (ns.map V.int) ∧ ns.length ≤ 63 ∧ (∀ p ∈ tabsOf K, H p.1 = some (.tbl #[])) ∧ ∀ H', Q (.bl true) H'
/-- all but the tables -/
def noTbl (H : Hp) : Hp := fun b => match H b with
  | some (.tbl _) => none
  | o => o
theorem noTbl_of {H : Hp} {b : Addr} {o : HO} (h : H b = some o) (n : ∀ ps, o ≠ .tbl ps) : noTbl H b = some o := by
  unfold noTbl
  rw [h]
  cases o <;> first | rfl | exact absurd rfl (n _)
theorem noTbl_no {H : Hp} (b : Addr) (ps : Array Value) : noTbl H b ≠ some (.tbl ps) := fun e => by
  unfold noTbl at e
  split at e
  · cases e
  · rename_i h; exact h _ e
theorem noTbl_le {H : Hp} : Same (noTbl H) H := fun b o e => by
  unfold noTbl at e
  split at e
  · cases e
  · exact e
theorem gLaw {K : PySem.W.Frag} {mg : Str → Option Value} {H : Hp} {a : Addr} {ns : List Int} (hs : SqL K H a (ns.map V.int)) (ht : ∀ p ∈ tabsOf K, H p.1 = some (.tbl #[])) : G ⟨K, mg⟩ (fun _ => []) (noTbl H) H (List.map some [O.sh (.fz (ns.map D.int))]) ([V.ref a].map some) [] [] := by
  refine ⟨rfl, rfl, fun x o eo => ?_, fun _ => List.nodup_nil, fun _ _ _ _ hx => by simp at hx, fun _ _ hx => by simp at hx, fun _ _ hx => by simp at hx, noTbl_le, ⟨fun p hp => ⟨by unfold noTbl; rw [ht p hp], #[], ht p hp, True.intro, fun pos cv hc => ?_⟩, noTbl_no⟩⟩
  · cases x with
    | t k => simp [atO] at eo
    | s i =>
      cases i with
      | zero =>
        simp [atO] at eo
        subst eo
        refine ⟨.ref a, by simp [atV], .fd (.sh (.fz ?_ (reps_ints ns)))⟩
        rcases hs with (h | ⟨o, h⟩) | h
        · exact .inl (.inl (noTbl_of h fun _ z => by cases z))
        · exact .inl (.inr ⟨o, noTbl_of h fun _ z => by cases z⟩)
        · exact .inr h
      | succ i => simp [atO] at eo
  · have z : codeAmong pos [] = some cv := hc
    simp [codeAmong] at z
end DL

end

section
set_option Elab.async false
set_option linter.all false
set_option maxRecDepth 100000
namespace DL
open PySem L2 RZ PyProof.Rows

theorem hu64 {A : Around} {k : Nat} (hr : Room k A) : A.units + 64 < cLine := by have := hr.un; omega
/-- a def that can be called by its name -/
structure Cal (P : Program) (w : World) (K : PySem.W.Frag) (mg : Str → Option Value) (base : Heap) (k : Nat) (x : Str) (ps : List Str) (sem : Sem) : Prop where
  ex : ∃ (f : Addr) (fd : FuncData), FnOk P w K mg base CX0 k f fd ps (spD ⟨K, mg⟩ ps.length sem) ∧ mg x = some (.ref f) ∧ PySem.W.keepIn K (.ref f) = true ∧ Binds K fd ps []
section
variable {X : Cx} {κ : Kx} {W : WX'} {mu : List Nat} {p : Bool}
end
end DL

end

section
set_option Elab.async false
set_option linter.all false
set_option maxRecDepth 100000
namespace DL
open PySem L2 RZ PyProof.Rows

section
variable {α β : Type}
theorem sBind_ok {m : M α} {k : α → MS} {ρ ρ' : Env} {a : α} (h : m ρ = .ok a ρ') : sBind m k ρ = k a ρ' := by unfold sBind; rw [h]
theorem sSeq_next {m n : MS} {ρ ρ' : Env} (h : m ρ = .next ρ') : sSeq m n ρ = n ρ' := by unfold sSeq; rw [h]
theorem sSeq_ret {m n : MS} {ρ ρ' : Env} {r : O} (h : m ρ = .ret r ρ') : sSeq m n ρ = .ret r ρ' := by unfold sSeq; rw [h]
/-- for, by an invariant: P of the loop's end -/
theorem forGo_by {b : Bn} {body : MS} {P : OutS → Prop} (I : Nat → Env → Prop) : ∀ (ds : List D) (k : Nat) (ρ : Env), I k ρ →
    (∀ i d ρ, ds[i]? = some d → I (k + i) ρ → ∃ ρ1, b d ρ = some ρ1 ∧ ((∃ ρ2, (body ρ1 = .next ρ2 ∨ body ρ1 = .cont ρ2) ∧ I (k + i + 1) ρ2) ∨ (∃ ρ2, body ρ1 = .brk ρ2 ∧ P (.next ρ2)) ∨ ∃ r ρ2, body ρ1 = .ret r ρ2 ∧ P (.ret r ρ2))) →
    (∀ ρ, I (k + ds.length) ρ → P (.next ρ)) → P (forGo b body ds ρ)
  | [], k, ρ, h, _, fin => fin ρ (by simpa using h)
  | d :: ds, k, ρ, h, step, fin => by
    obtain ⟨ρ1, hb, hs⟩ := step 0 d ρ (by simp) (by simpa using h)
    rw [forGo_cons, hb]
    simp only
    rcases hs with ⟨ρ2, hn, hi⟩ | ⟨ρ2, hn, hp⟩ | ⟨r, ρ2, hn, hp⟩
    · have hi : I (k + 1) ρ2 := by simpa using hi
      have go : P (forGo b body ds ρ2) := forGo_by I ds (k + 1) ρ2 hi (fun i d ρ hd h => by
        have := step (i + 1) d ρ (by simpa using hd) (by rw [show k + (i + 1) = k + 1 + i by omega]; exact h)
        rw [show k + (i + 1) + 1 = k + 1 + i + 1 by omega] at this
        exact this) fun ρ h => fin ρ (by rw [show k + (d :: ds).length = k + 1 + ds.length by simp; omega]; exact h)
      rcases hn with hn | hn <;> rw [hn] <;> exact go
    · rw [hn]; exact hp
    · rw [hn]; exact hp
end
section
variable {P : OutS → Prop} {m n : MS} {t : M Bool} {ρ ρ' : Env} {b : Bool} {r : O}
theorem w_seq (h : m ρ = .next ρ') (k : P (n ρ')) : P (sSeq m n ρ) := by rw [sSeq_next h]; exact k
theorem w_seqR (h : m ρ = .ret r ρ') (k : P (.ret r ρ')) : P (sSeq m n ρ) := by rw [sSeq_ret h]; exact k
theorem w_ifT (h : t ρ = .ok true ρ') (k : P (m ρ')) : P (sIf t m n ρ) := by unfold sIf; rw [sBind_ok h]; exact k
theorem w_ifF (h : t ρ = .ok false ρ') (k : P (n ρ')) : P (sIf t m n ρ) := by unfold sIf; rw [sBind_ok h]; exact k
theorem w_for {src : M (List D)} {bn : Bn} {body : MS} {ds : List D} (I : Nat → Env → Prop) (h : src ρ = .ok ds ρ') (h0 : I 0 ρ')
    (step : ∀ i d ρ, ds[i]? = some d → I i ρ → ∃ ρ1, bn d ρ = some ρ1 ∧ ((∃ ρ2, (body ρ1 = .next ρ2 ∨ body ρ1 = .cont ρ2) ∧ I (i + 1) ρ2) ∨ (∃ ρ2, body ρ1 = .brk ρ2 ∧ P (.next ρ2)) ∨ ∃ r ρ2, body ρ1 = .ret r ρ2 ∧ P (.ret r ρ2)))
    (fin : ∀ ρ, I ds.length ρ → P (.next ρ)) : P (sFor src bn body ρ) := by
  unfold sFor
  rw [sBind_ok h]
  exact forGo_by I ds 0 ρ' h0 (fun i d ρ hd hi => by
    have := step i d ρ hd (by simpa using hi)
    simpa using this) fun ρ hi => fin ρ (by simpa using hi)
/-- goes on, in a state like that -/
def NextI (I : Env → Prop) (o : OutS) : Prop := ∃ ρ, o = .next ρ ∧ I ρ
/-- tells a value like that -/
def RetI (Q : O → Env → Prop) (o : OutS) : Prop := ∃ r ρ, o = .ret r ρ ∧ Q r ρ
theorem nextI {I : Env → Prop} {ρ : Env} (h : I ρ) : NextI I (.next ρ) := ⟨ρ, rfl, h⟩
theorem retI {Q : O → Env → Prop} {r : O} {ρ : Env} (h : Q r ρ) : RetI Q (.ret r ρ) := ⟨r, ρ, rfl, h⟩
theorem w_seqI (I : Env → Prop) (h : NextI I (m ρ)) (k : ∀ ρ', I ρ' → P (n ρ')) : P (sSeq m n ρ) := by
  obtain ⟨ρ', e, i⟩ := h
  exact w_seq e (k ρ' i)
/-- a first part that may tell the end -/
theorem w_seqRI {Q : O → Env → Prop} (I : Env → Prop) (h : RetI Q (m ρ) ∨ NextI I (m ρ)) (k : ∀ ρ', I ρ' → RetI Q (n ρ')) : RetI Q (sSeq m n ρ) := by
  rcases h with ⟨r, ρ', e, q⟩ | ⟨ρ', e, i⟩
  · exact w_seqR e (retI q)
  · exact w_seq e (k ρ' i)
theorem w_ret {Q : O → Env → Prop} {e : M O} {r : O} (h : e ρ = .ok r ρ') (q : Q r ρ') : RetI Q (sRet e ρ) := ⟨r, ρ', by unfold sRet; rw [sBind_ok h], q⟩
theorem sem_ret {N n : Nat} {mu : List Nat} {m : MS} {os : List O} {r : O} {ρ' : Env} (hl : os.length = n) (h : m (os.map some ++ List.replicate (N - n) none) = .ret r ρ') : semOf N n mu m os = .ok r (keepE mu n ρ') := by
  unfold semOf
  rw [if_pos hl, h]
end
end DL

end

section
set_option Elab.async false
set_option linter.all false
set_option maxRecDepth 100000
namespace DL
open PySem L2 RZ PyProof.Rows
def d__law_pen : MS :=
  (sSeq (sAsg 1 (mMap O.sh (mPure (.int 0))))
  (sSeq (sFor (mBind (mNameV 0) seqD) (bName 2)
  (sAsg 1 (mOpS (liftI modI) (mCall (f1 intD) (mConsB true (mMap (fun o => ((none : Option Nat), o)) (mOpS addD (mOpN 1 (liftI mulI) (mMap (fun d => ((none : Option Nat), O.sh d)) (mPure (.int 47)))) (mNameB 2))) (mPure []))) (mMap (fun d => ((none : Option Nat), O.sh d)) (mPure (.int 1000000007))))))
  (sRet (mDisp (mConsP (mPure (.str "cells")) (mMap O.toD (mCall (f1 listD) (mConsB true (mNameB 0) (mPure [])))) (mConsP (mPure (.str "at")) (mPure (.int 0)) (mConsP (mPure (.str "digits")) (mPure (.int 0)) (mConsP (mPure (.str "count")) (mPure (.int 0)) (mConsP (mPure (.str "fold")) (mNameV 1) (mPure []))))))))))
def sem__law_pen : Sem := semOf 3 1 [0] d__law_pen
def d__law_draw : MS :=
  (sSeq (sPut 0 (mPure (.str "count")) (mMap O.toD (mOpS addD (mMap O.sh (mBind (mSubN 0 (mPure (.str "count"))) asSh)) (mMap (fun d => ((none : Option Nat), O.sh d)) (mPure (.int 1))))))
  (sSeq (sIf (mAndT (mBl (mOpS eqO (mMap O.sh (mBind (mSubN 0 (mPure (.str "digits"))) asSh)) (mMap (fun d => ((none : Option Nat), O.sh d)) (mPure (.int 0))))) (mBl (mOpS (liftB fun i j => decide (i < j)) (mMap O.sh (mBind (mSubN 0 (mPure (.str "at"))) asSh)) (mMap (fun o => ((none : Option Nat), o)) (mCall (f1 lenD) (mConsB true (mSubN 0 (mPure (.str "cells"))) (mPure []))))))) (sSeq (sAsg 2 (mMap O.sh (mBind (mSub false (mSubN 0 (mPure (.str "cells"))) (mBind (mSubN 0 (mPure (.str "at"))) asSh)) asSh)))
  (sSeq (sPut 0 (mPure (.str "at")) (mMap O.toD (mOpS addD (mMap O.sh (mBind (mSubN 0 (mPure (.str "at"))) asSh)) (mMap (fun d => ((none : Option Nat), O.sh d)) (mPure (.int 1))))))
  (sIf (mBl (mOpN 2 (liftB fun i j => decide (j ≤ i)) (mMap (fun o => ((none : Option Nat), o)) (mOpS (liftI powI) (mMap O.sh (mPure (.int 10))) (mMap (fun d => ((none : Option Nat), O.sh d)) (mPure (.int 18))))))) (sPut 0 (mPure (.str "digits")) (mMap O.toD (mOpN 2 (liftI subI) (mMap (fun o => ((none : Option Nat), o)) (mOpS (liftI powI) (mMap O.sh (mPure (.int 10))) (mMap (fun d => ((none : Option Nat), O.sh d)) (mPure (.int 18)))))))) (sPut 0 (mPure (.str "fold")) (mMap O.toD (mOpS (liftI modI) (mCall (f1 intD) (mConsB true (mMap (fun o => ((none : Option Nat), o)) (mOpS addD (mOpS (liftI mulI) (mMap O.sh (mBind (mSubN 0 (mPure (.str "fold"))) asSh)) (mMap (fun d => ((none : Option Nat), O.sh d)) (mPure (.int 69069)))) (mNameB 2))) (mPure []))) (mMap (fun d => ((none : Option Nat), O.sh d)) (mPure (.int 2147483587))))))))) sNext)
  (sSeq (sIf (mBl (mOpS (liftB fun i j => decide (j < i)) (mMap O.sh (mBind (mSubN 0 (mPure (.str "digits"))) asSh)) (mMap (fun d => ((none : Option Nat), O.sh d)) (mPure (.int 0))))) (sSeq (sAsg 3 (mOpS (liftI modI) (mCall (f1 intD) (mConsB true (mSubN 0 (mPure (.str "digits"))) (mPure []))) (mNameB 1)))
  (sSeq (sPut 0 (mPure (.str "digits")) (mMap O.toD (mOpS (liftI divI) (mMap O.sh (mBind (mSubN 0 (mPure (.str "digits"))) asSh)) (mNameB 1))))
  (sRet (mNameM 3)))) sNext)
  (sSeq (sAsg 4 (mOpS addD (mOpS addD (mMap O.sh (mBind (mSubN 0 (mPure (.str "fold"))) asSh)) (mMap (fun o => ((none : Option Nat), o)) (mOpS (liftI mulI) (mMap O.sh (mBind (mSubN 0 (mPure (.str "count"))) asSh)) (mMap (fun d => ((none : Option Nat), O.sh d)) (mPure (.int 7907)))))) (mMap (fun d => ((none : Option Nat), O.sh d)) (mPure (.int 43)))))
  (sRet (mOpS (liftI modI) (mOpS (liftI divI) (mCall (f1 intD) (mConsB true (mMap (fun o => ((none : Option Nat), o)) (mOpS (liftI modI) (mOpN 4 (liftI powI) (mMap (fun d => ((none : Option Nat), O.sh d)) (mPure (.int 17)))) (mMap (fun d => ((none : Option Nat), O.sh d)) (mPure (.int 2305843009213693951))))) (mPure []))) (mMap (fun d => ((none : Option Nat), O.sh d)) (mPure (.int 128)))) (mNameB 1)))))))
def sem__law_draw : Sem := semOf 5 2 [0, 1] d__law_draw
def d__law_pick : MS :=
  (sRet (mMap O.sh (mBind (mSubN 1 (mMap O.toD (mCallF sem__law_draw [some 0, none] (mHas 0 (mConsO (mCall (f1 lenD) (mConsB true (mNameB 1) (mPure []))) (mPure [])))))) asSh)))
def sem__law_pick : Sem := semOf 2 2 [0, 1] d__law_pick
theorem slotSh_s {x : Option O} {ρ : Env} {i : Nat} : slotSh (x :: ρ) (i + 1) = slotSh ρ i := rfl
theorem slotSh_sh {d : D} {ρ : Env} : slotSh (some (.fd (.sh d)) :: ρ) 0 = true := rfl
theorem slotSh_ct {c : Ct} {ρ : Env} : slotSh (some (.fd (.ct c)) :: ρ) 0 = false := rfl
theorem atI_nat {α : Type} {xs : List α} {i : Nat} {d : α} (h : xs[i]? = some d) : atI xs (i : Int) = some d := by
  have hi : i < xs.length := (List.getElem?_eq_some_iff.mp h).1
  unfold atI ixN
  rw [if_pos (by omega), if_pos (by omega)]
  simpa using h
theorem atI_of {α : Type} {xs : List α} {i : Int} {d : α} (h0 : 0 ≤ i) (h : xs[i.toNat]? = some d) : atI xs i = some d := by
  have e1 : i = ((i.toNat : Nat) : Int) := by omega
  rw [e1]
  exact atI_nat h
theorem item_lst {z : Option Nat} {xs : List D} {i : Int} {d : D} (h0 : 0 ≤ i) (h : xs[i.toNat]? = some d) : itemOf (z, .sh (.lst xs)) (.int i) = some (none, .sh d) := by
  show (match atI xs i with
    | some d => some (none, O.sh d)
    | none => none) = _
  rw [atI_of h0 h]
theorem item_own {z : Option Nat} {xs : List D} {i : Int} {d : D} (h0 : 0 ≤ i) (h : xs[i.toNat]? = some d) : itemOf (z, .lst xs) (.int i) = some (none, .sh d) := by
  show (match atI xs i with
    | some d => some (none, O.sh d)
    | none => none) = _
  rw [atI_of h0 h]
theorem item_tup {z : Option Nat} {xs : List D} {i : Int} {d : D} (h0 : 0 ≤ i) (h : xs[i.toNat]? = some d) : itemOf (z, .sh (.tup xs)) (.int i) = some (none, .sh d) := by
  show (match atI xs i with
    | some d => some (none, O.sh d)
    | none => none) = _
  rw [atI_of h0 h]
def penKeys : List Key := [.inr "cells", .inr "at", .inr "digits", .inr "count", .inr "fold"]
def penO (cells : List D) (at_ digits count fold : Int) : O := .fd (.ct (.dk penKeys [.lst cells, .int at_, .int digits, .int count, .int fold]))
section
variable {z : Option Nat} {cells : List D} {a d c f v : Int}
theorem pen_cells : itemOf (z, penO cells a d c f) (.str "cells") = some (none, .sh (.lst cells)) := by rfl
theorem pen_at : itemOf (z, penO cells a d c f) (.str "at") = some (none, .sh (.int a)) := by rfl
theorem pen_digits : itemOf (z, penO cells a d c f) (.str "digits") = some (none, .sh (.int d)) := by rfl
theorem pen_count : itemOf (z, penO cells a d c f) (.str "count") = some (none, .sh (.int c)) := by rfl
theorem pen_fold : itemOf (z, penO cells a d c f) (.str "fold") = some (none, .sh (.int f)) := by rfl
theorem put_at : putO (penO cells a d c f) (.str "at") (.int v) = some (penO cells v d c f) := by rfl
theorem put_digits : putO (penO cells a d c f) (.str "digits") (.int v) = some (penO cells a v c f) := by rfl
theorem put_count : putO (penO cells a d c f) (.str "count") (.int v) = some (penO cells a d v f) := by rfl
theorem put_fold : putO (penO cells a d c f) (.str "fold") (.int v) = some (penO cells a d c v) := by rfl
end

@[simp] theorem toD_sh {d : D} : O.toD (.fd (.sh d)) = d := rfl
@[simp] theorem toD_lst {ds : List D} : O.toD (.fd (.ct (.lst ds))) = .lst ds := rfl
structure PenOk (k : Nat) (o : O) : Prop where
  ex : ∃ (ns : List Int) (a d c f : Int), o = penO (ns.map D.int) a d c f ∧ ns.length ≤ lim ∧ 0 ≤ a ∧ 0 ≤ d ∧ 0 ≤ f ∧ f < 2147483587 ∧ 0 ≤ c ∧ c ≤ k
theorem eq_int {i j : Int} : eqO (.int i) (.int j) = some (.sh (.bl (i == j))) := rfl

theorem powI10 : powI 10 18 = some 1000000000000000000 := by rfl
theorem pow_of {i : Int} (h0 : 0 ≤ i) (h : i < 18446744073709551616) : powI i 17 = some (i ^ 17) := by
  unfold powI
  rw [if_pos ⟨by decide, by decide, by omega⟩]
  rfl
theorem mul_of {i j : Int} (h : i.natAbs < P512) (h' : j.natAbs < P512) : mulI i j = some (i * j) := if_pos ⟨h, h'⟩
theorem div_of {i j : Int} (h : 0 < j) (h' : j.natAbs < P512) : divI i j = some (i / j) := if_pos ⟨h, h'⟩
theorem mod_of {i j : Int} (h : 0 < j) : modI i j = some (i % j) := if_pos h
theorem p512 : (18446744073709551616 : Nat) < P512 := by unfold P512; exact Nat.lt_of_lt_of_le (show 18446744073709551616 < 2 ^ 65 by decide) (Nat.pow_le_pow_right (by decide) (by decide))
theorem lt512 {i : Int} (h0 : 0 ≤ i) (h : i < 18446744073709551616) : i.natAbs < P512 := Nat.lt_trans (by omega) p512
theorem draw_spec {k : Nat} {p : O} {many : Int} (hp : PenOk k p) (h1 : 1 ≤ many) (h2 : many.natAbs < P512) (hk : k ≤ 1073741824) :
    ∃ r p', sem__law_draw [p, .sh (.int many)] = .ok (.sh (.int r)) [some p', some (.sh (.int many))] ∧ 0 ≤ r ∧ r < many ∧ PenOk (k + 1) p' := by
  obtain ⟨ns, a, d, c, f, rfl, hn, ha, hd, hf, hf2, hc, hck⟩ := hp.ex
  suffices h : RetI (fun o ρ => ∃ r p' x y z, o = .sh (.int r) ∧ ρ = [some p', some (.sh (.int many)), x, y, z] ∧ 0 ≤ r ∧ r < many ∧ PenOk (k + 1) p') (d__law_draw [some (penO (ns.map D.int) a d c f), some (.sh (.int many)), none, none, none]) by
    obtain ⟨_, _, e, r, p', x, y, z, rfl, rfl, h3, h4, h5⟩ := h
    exact ⟨r, p', by rw [sem__law_draw, sem_ret (n := 2) rfl e]; rfl, h3, h4, h5⟩
  unfold d__law_draw
  refine w_seq (ρ' := [some (penO (ns.map D.int) a d (c + 1) f), some (.sh (.int many)), none, none, none]) rfl ?_
  refine w_seqI (fun ρ => ∃ a d f u, ρ = [some (penO (ns.map D.int) a d (c + 1) f), some (.sh (.int many)), u, none, none] ∧ 0 ≤ a ∧ 0 ≤ d ∧ 0 ≤ f ∧ f < 2147483587) ?_ ?_
  · by_cases hz : d = 0 ∧ a < ns.length
    · obtain ⟨rfl, hal⟩ := hz
      obtain ⟨x, hx⟩ : ∃ x, ns[a.toNat]? = some x := ⟨_, List.getElem?_eq_getElem (by omega)⟩
      have hix : itemOf (none, .sh (.lst (ns.map D.int))) (.int a) = some (none, .sh (.int x)) := by
        show (match atI (ns.map D.int) a with
          | some d => some (none, O.sh d)
          | none => none) = _
        have e1 : a = ((a.toNat : Nat) : Int) := by omega
        rw [e1, atI_nat (d := .int x) (by rw [List.getElem?_map, hx]; rfl)]
      refine w_ifT (ρ' := [some (penO (ns.map D.int) a 0 (c + 1) f), some (.sh (.int many)), none, none, none]) (by
        simp only [mAndT, mOrT, mBl, mOpS, mOpN, mBind, mMap, mPure, mSubN, mSub, asSh, mCall, f1, f2, mConsB, mNameB, mNameV, mNameM, lenD, DL.intD, liftB, liftI, toD_sh, toD_lst, List.getElem?_cons_zero, List.getElem?_cons_succ, List.map_cons, List.map_nil, pen_cells, pen_at, pen_digits, pen_count, pen_fold, put_at, put_digits, put_count, put_fold, List.set_cons_zero, List.set_cons_succ, sPut, sBind, sAsg, isSh, Bool.false_or, Bool.true_or, if_true, if_false, Bool.false_eq_true, reduceIte, addD, subI, mCallF, mHas, mConsO, fill, putBack, slotSh_s, slotSh_sh, slotSh_ct, List.tail_cons, List.head?_cons, Option.join_some, eq_int, beq_self_eq_true, List.length_map, decide_eq_true hal]) ?_
      refine w_seq (ρ' := [some (penO (ns.map D.int) a 0 (c + 1) f), some (.sh (.int many)), some (.sh (.int x)), none, none]) (by
        simp only [mAndT, mOrT, mBl, mOpS, mOpN, mBind, mMap, mPure, mSubN, mSub, asSh, mCall, f1, f2, mConsB, mNameB, mNameV, mNameM, lenD, DL.intD, liftB, liftI, toD_sh, toD_lst, List.getElem?_cons_zero, List.getElem?_cons_succ, List.map_cons, List.map_nil, pen_cells, pen_at, pen_digits, pen_count, pen_fold, put_at, put_digits, put_count, put_fold, List.set_cons_zero, List.set_cons_succ, sPut, sBind, sAsg, isSh, Bool.false_or, Bool.true_or, if_true, if_false, Bool.false_eq_true, reduceIte, addD, subI, mCallF, mHas, mConsO, fill, putBack, slotSh_s, slotSh_sh, slotSh_ct, List.tail_cons, List.head?_cons, Option.join_some, hix]) ?_
      refine w_seq (ρ' := [some (penO (ns.map D.int) (a + 1) 0 (c + 1) f), some (.sh (.int many)), some (.sh (.int x)), none, none]) (by rfl) ?_
      by_cases hx : (1000000000000000000 : Int) ≤ x
      · refine w_ifT (ρ' := [some (penO (ns.map D.int) (a + 1) 0 (c + 1) f), some (.sh (.int many)), some (.sh (.int x)), none, none]) (by
          simp only [mAndT, mOrT, mBl, mOpS, mOpN, mBind, mMap, mPure, mSubN, mSub, asSh, mCall, f1, f2, mConsB, mNameB, mNameV, mNameM, lenD, DL.intD, liftB, liftI, toD_sh, toD_lst, List.getElem?_cons_zero, List.getElem?_cons_succ, List.map_cons, List.map_nil, pen_cells, pen_at, pen_digits, pen_count, pen_fold, put_at, put_digits, put_count, put_fold, List.set_cons_zero, List.set_cons_succ, sPut, sBind, sAsg, isSh, Bool.false_or, Bool.true_or, if_true, if_false, Bool.false_eq_true, reduceIte, addD, subI, mCallF, mHas, mConsO, fill, putBack, slotSh_s, slotSh_sh, slotSh_ct, List.tail_cons, List.head?_cons, Option.join_some, powI10, decide_eq_true hx]) ?_
        refine ⟨_, ?_, a + 1, x - 1000000000000000000, f, some (.sh (.int x)), rfl, by omega, by omega, hf, hf2⟩
        simp only [mAndT, mOrT, mBl, mOpS, mOpN, mBind, mMap, mPure, mSubN, mSub, asSh, mCall, f1, f2, mConsB, mNameB, mNameV, mNameM, lenD, DL.intD, liftB, liftI, toD_sh, toD_lst, List.getElem?_cons_zero, List.getElem?_cons_succ, List.map_cons, List.map_nil, pen_cells, pen_at, pen_digits, pen_count, pen_fold, put_at, put_digits, put_count, put_fold, List.set_cons_zero, List.set_cons_succ, sPut, sBind, sAsg, isSh, Bool.false_or, Bool.true_or, if_true, if_false, Bool.false_eq_true, reduceIte, addD, subI, mCallF, mHas, mConsO, fill, putBack, slotSh_s, slotSh_sh, slotSh_ct, List.tail_cons, List.head?_cons, Option.join_some, powI10]
      · refine w_ifF (ρ' := [some (penO (ns.map D.int) (a + 1) 0 (c + 1) f), some (.sh (.int many)), some (.sh (.int x)), none, none]) (by
          simp only [mAndT, mOrT, mBl, mOpS, mOpN, mBind, mMap, mPure, mSubN, mSub, asSh, mCall, f1, f2, mConsB, mNameB, mNameV, mNameM, lenD, DL.intD, liftB, liftI, toD_sh, toD_lst, List.getElem?_cons_zero, List.getElem?_cons_succ, List.map_cons, List.map_nil, pen_cells, pen_at, pen_digits, pen_count, pen_fold, put_at, put_digits, put_count, put_fold, List.set_cons_zero, List.set_cons_succ, sPut, sBind, sAsg, isSh, Bool.false_or, Bool.true_or, if_true, if_false, Bool.false_eq_true, reduceIte, addD, subI, mCallF, mHas, mConsO, fill, putBack, slotSh_s, slotSh_sh, slotSh_ct, List.tail_cons, List.head?_cons, Option.join_some, powI10, decide_eq_false hx]) ?_
        have hm : 0 ≤ (f * 69069 + x) % 2147483587 := Int.emod_nonneg _ (by decide)
        have hm2 : (f * 69069 + x) % 2147483587 < 2147483587 := Int.emod_lt_of_pos _ (by decide)
        refine ⟨_, ?_, a + 1, 0, (f * 69069 + x) % 2147483587, some (.sh (.int x)), rfl, by omega, by omega, hm, hm2⟩
        simp only [mAndT, mOrT, mBl, mOpS, mOpN, mBind, mMap, mPure, mSubN, mSub, asSh, mCall, f1, f2, mConsB, mNameB, mNameV, mNameM, lenD, DL.intD, liftB, liftI, toD_sh, toD_lst, List.getElem?_cons_zero, List.getElem?_cons_succ, List.map_cons, List.map_nil, pen_cells, pen_at, pen_digits, pen_count, pen_fold, put_at, put_digits, put_count, put_fold, List.set_cons_zero, List.set_cons_succ, sPut, sBind, sAsg, isSh, Bool.false_or, Bool.true_or, if_true, if_false, Bool.false_eq_true, reduceIte, addD, subI, mCallF, mHas, mConsO, fill, putBack, slotSh_s, slotSh_sh, slotSh_ct, List.tail_cons, List.head?_cons, Option.join_some, mul_of (lt512 hf (by omega)) (lt512 (show (0 : Int) ≤ 69069 by decide) (by decide)), mod_of (show (0 : Int) < 2147483587 by decide)]
    · refine w_ifF (ρ' := [some (penO (ns.map D.int) a d (c + 1) f), some (.sh (.int many)), none, none, none]) ?_ (nextI ⟨a, d, f, none, rfl, ha, hd, hf, hf2⟩)
      by_cases h0 : d = 0
      · subst h0
        have hz' : ¬ (a < (ns.length : Int)) := fun z => hz ⟨rfl, z⟩
        simp only [mAndT, mOrT, mBl, mOpS, mOpN, mBind, mMap, mPure, mSubN, mSub, asSh, mCall, f1, f2, mConsB, mNameB, mNameV, mNameM, lenD, DL.intD, liftB, liftI, toD_sh, toD_lst, List.getElem?_cons_zero, List.getElem?_cons_succ, List.map_cons, List.map_nil, pen_cells, pen_at, pen_digits, pen_count, pen_fold, put_at, put_digits, put_count, put_fold, List.set_cons_zero, List.set_cons_succ, sPut, sBind, sAsg, isSh, Bool.false_or, Bool.true_or, if_true, if_false, Bool.false_eq_true, reduceIte, addD, subI, mCallF, mHas, mConsO, fill, putBack, slotSh_s, slotSh_sh, slotSh_ct, List.tail_cons, List.head?_cons, Option.join_some, eq_int, beq_self_eq_true, List.length_map, decide_eq_false hz']
      · have e0 : (d == 0) = false := beq_eq_false_iff_ne.mpr h0
        simp only [mAndT, mOrT, mBl, mOpS, mOpN, mBind, mMap, mPure, mSubN, mSub, asSh, mCall, f1, f2, mConsB, mNameB, mNameV, mNameM, lenD, DL.intD, liftB, liftI, toD_sh, toD_lst, List.getElem?_cons_zero, List.getElem?_cons_succ, List.map_cons, List.map_nil, pen_cells, pen_at, pen_digits, pen_count, pen_fold, put_at, put_digits, put_count, put_fold, List.set_cons_zero, List.set_cons_succ, sPut, sBind, sAsg, isSh, Bool.false_or, Bool.true_or, if_true, if_false, Bool.false_eq_true, reduceIte, addD, subI, mCallF, mHas, mConsO, fill, putBack, slotSh_s, slotSh_sh, slotSh_ct, List.tail_cons, List.head?_cons, Option.join_some, eq_int, e0]
  · rintro _ ⟨a, d, f, u, rfl, ha, hd, hf, hf2⟩
    by_cases hz : 0 < d
    · refine w_seqRI (fun _ => False) (.inl ?_) (fun _ h => h.elim)
      refine w_ifT (ρ' := [some (penO (ns.map D.int) a d (c + 1) f), some (.sh (.int many)), u, none, none]) (by
        simp only [mAndT, mOrT, mBl, mOpS, mOpN, mBind, mMap, mPure, mSubN, mSub, asSh, mCall, f1, f2, mConsB, mNameB, mNameV, mNameM, lenD, DL.intD, liftB, liftI, toD_sh, toD_lst, List.getElem?_cons_zero, List.getElem?_cons_succ, List.map_cons, List.map_nil, pen_cells, pen_at, pen_digits, pen_count, pen_fold, put_at, put_digits, put_count, put_fold, List.set_cons_zero, List.set_cons_succ, sPut, sBind, sAsg, isSh, Bool.false_or, Bool.true_or, if_true, if_false, Bool.false_eq_true, reduceIte, addD, subI, mCallF, mHas, mConsO, fill, putBack, slotSh_s, slotSh_sh, slotSh_ct, List.tail_cons, List.head?_cons, Option.join_some, decide_eq_true hz]) ?_
      refine w_seq (ρ' := [some (penO (ns.map D.int) a d (c + 1) f), some (.sh (.int many)), u, some (.sh (.int (d % many))), none]) (by
        simp only [mAndT, mOrT, mBl, mOpS, mOpN, mBind, mMap, mPure, mSubN, mSub, asSh, mCall, f1, f2, mConsB, mNameB, mNameV, mNameM, lenD, DL.intD, liftB, liftI, toD_sh, toD_lst, List.getElem?_cons_zero, List.getElem?_cons_succ, List.map_cons, List.map_nil, pen_cells, pen_at, pen_digits, pen_count, pen_fold, put_at, put_digits, put_count, put_fold, List.set_cons_zero, List.set_cons_succ, sPut, sBind, sAsg, isSh, Bool.false_or, Bool.true_or, if_true, if_false, Bool.false_eq_true, reduceIte, addD, subI, mCallF, mHas, mConsO, fill, putBack, slotSh_s, slotSh_sh, slotSh_ct, List.tail_cons, List.head?_cons, Option.join_some, mod_of (show 0 < many by omega)]) ?_
      refine w_seq (ρ' := [some (penO (ns.map D.int) a (d / many) (c + 1) f), some (.sh (.int many)), u, some (.sh (.int (d % many))), none]) (by
        simp only [mAndT, mOrT, mBl, mOpS, mOpN, mBind, mMap, mPure, mSubN, mSub, asSh, mCall, f1, f2, mConsB, mNameB, mNameV, mNameM, lenD, DL.intD, liftB, liftI, toD_sh, toD_lst, List.getElem?_cons_zero, List.getElem?_cons_succ, List.map_cons, List.map_nil, pen_cells, pen_at, pen_digits, pen_count, pen_fold, put_at, put_digits, put_count, put_fold, List.set_cons_zero, List.set_cons_succ, sPut, sBind, sAsg, isSh, Bool.false_or, Bool.true_or, if_true, if_false, Bool.false_eq_true, reduceIte, addD, subI, mCallF, mHas, mConsO, fill, putBack, slotSh_s, slotSh_sh, slotSh_ct, List.tail_cons, List.head?_cons, Option.join_some, div_of (show 0 < many by omega) h2]) ?_
      refine w_ret (r := .sh (.int (d % many))) rfl ⟨_, _, _, _, _, rfl, rfl, Int.emod_nonneg _ (by omega), Int.emod_lt_of_pos _ (by omega), ⟨ns, a, d / many, c + 1, f, rfl, hn, ha, Int.ediv_nonneg hd (by omega), hf, hf2, by omega, by push_cast; omega⟩⟩
    · refine w_seq (ρ' := [some (penO (ns.map D.int) a d (c + 1) f), some (.sh (.int many)), u, none, none]) (w_ifF (P := fun o => o = .next _) (ρ' := [some (penO (ns.map D.int) a d (c + 1) f), some (.sh (.int many)), u, none, none]) (by
        simp only [mAndT, mOrT, mBl, mOpS, mOpN, mBind, mMap, mPure, mSubN, mSub, asSh, mCall, f1, f2, mConsB, mNameB, mNameV, mNameM, lenD, DL.intD, liftB, liftI, toD_sh, toD_lst, List.getElem?_cons_zero, List.getElem?_cons_succ, List.map_cons, List.map_nil, pen_cells, pen_at, pen_digits, pen_count, pen_fold, put_at, put_digits, put_count, put_fold, List.set_cons_zero, List.set_cons_succ, sPut, sBind, sAsg, isSh, Bool.false_or, Bool.true_or, if_true, if_false, Bool.false_eq_true, reduceIte, addD, subI, mCallF, mHas, mConsO, fill, putBack, slotSh_s, slotSh_sh, slotSh_ct, List.tail_cons, List.head?_cons, Option.join_some, decide_eq_false hz]) rfl) ?_
      refine w_seq (ρ' := [some (penO (ns.map D.int) a d (c + 1) f), some (.sh (.int many)), u, none, some (.sh (.int (f + (c + 1) * 7907 + 43)))]) (by
        simp only [mAndT, mOrT, mBl, mOpS, mOpN, mBind, mMap, mPure, mSubN, mSub, asSh, mCall, f1, f2, mConsB, mNameB, mNameV, mNameM, lenD, DL.intD, liftB, liftI, toD_sh, toD_lst, List.getElem?_cons_zero, List.getElem?_cons_succ, List.map_cons, List.map_nil, pen_cells, pen_at, pen_digits, pen_count, pen_fold, put_at, put_digits, put_count, put_fold, List.set_cons_zero, List.set_cons_succ, sPut, sBind, sAsg, isSh, Bool.false_or, Bool.true_or, if_true, if_false, Bool.false_eq_true, reduceIte, addD, subI, mCallF, mHas, mConsO, fill, putBack, slotSh_s, slotSh_sh, slotSh_ct, List.tail_cons, List.head?_cons, Option.join_some, mul_of (lt512 (show 0 ≤ c + 1 by omega) (by omega)) (lt512 (show (0 : Int) ≤ 7907 by decide) (by decide))]) ?_
      refine w_ret (r := .sh (.int ((f + (c + 1) * 7907 + 43) ^ 17 % 2305843009213693951 / 128 % many))) (ρ' := [some (penO (ns.map D.int) a d (c + 1) f), some (.sh (.int many)), u, none, some (.sh (.int (f + (c + 1) * 7907 + 43)))]) ?_
        ⟨_, _, _, _, _, rfl, rfl, Int.emod_nonneg _ (by omega), Int.emod_lt_of_pos _ (by omega), ⟨ns, a, d, c + 1, f, rfl, hn, ha, hd, hf, hf2, by omega, by push_cast; omega⟩⟩
      simp only [mAndT, mOrT, mBl, mOpS, mOpN, mBind, mMap, mPure, mSubN, mSub, asSh, mCall, f1, f2, mConsB, mNameB, mNameV, mNameM, lenD, DL.intD, liftB, liftI, toD_sh, toD_lst, List.getElem?_cons_zero, List.getElem?_cons_succ, List.map_cons, List.map_nil, pen_cells, pen_at, pen_digits, pen_count, pen_fold, put_at, put_digits, put_count, put_fold, List.set_cons_zero, List.set_cons_succ, sPut, sBind, sAsg, isSh, Bool.false_or, Bool.true_or, if_true, if_false, Bool.false_eq_true, reduceIte, addD, subI, mCallF, mHas, mConsO, fill, putBack, slotSh_s, slotSh_sh, slotSh_ct, List.tail_cons, List.head?_cons, Option.join_some, pow_of (show 0 ≤ f + (c + 1) * 7907 + 43 by omega) (by omega), mod_of (show (0 : Int) < 2305843009213693951 by decide), div_of (show (0 : Int) < 128 by decide) (lt512 (show (0 : Int) ≤ 128 by decide) (by decide)), mod_of (show 0 < many by omega)]

theorem pen_slot {k : Nat} {p : O} (hp : PenOk k p) {ρ : Env} : slotSh (some p :: ρ) 0 = false := by
  obtain ⟨ns, a, d, c, f, rfl, _⟩ := hp.ex
  rfl
theorem PenOk.mono {j k : Nat} {p : O} (hp : PenOk j p) (h : j ≤ k) : PenOk k p := by
  obtain ⟨ns, a, d, c, f, e, h1, h2, h3, h4, h5, h6, h7⟩ := hp.ex
  exact ⟨ns, a, d, c, f, e, h1, h2, h3, h4, h5, h6, by omega⟩
/-- what is walked or drawn from -/
inductive SeqO : O → List D → Prop
  | own (xs : List D) : SeqO (.lst xs) xs
  | lst (xs : List D) : SeqO (.sh (.lst xs)) xs
  | tup (xs : List D) : SeqO (.sh (.tup xs)) xs
theorem pick_spec {k : Nat} {p o : O} {xs : List D} (hp : PenOk k p) (ho : SeqO o xs) (h1 : xs ≠ []) (h2 : xs.length ≤ lim) (hk : k ≤ 1073741824) :
    ∃ d p', sem__law_pick [p, o] = .ok (.sh d) [some p', some o] ∧ d ∈ xs ∧ PenOk (k + 1) p' := by
  have hl : 1 ≤ (xs.length : Int) := by
    cases xs with
    | nil => exact absurd rfl h1
    | cons x xs => simp; omega
  obtain ⟨r, p', e, h3, h4, h5⟩ := draw_spec (many := xs.length) hp hl (Nat.lt_trans (by unfold lim at h2; omega) p512) hk
  have hr : r.toNat < xs.length := by omega
  have hx : xs[r.toNat]? = some xs[r.toNat] := List.getElem?_eq_getElem hr
  refine ⟨xs[r.toNat], p', ?_, List.getElem_mem hr, h5⟩
  have hs : d__law_pick [some p, some o] = .ret (.sh xs[r.toNat]) [some p', some o] := by
    unfold d__law_pick sRet
    cases ho with
    | own => simp only [mAndT, mOrT, mBl, mOpS, mOpN, mBind, mMap, mPure, mSubN, mSub, asSh, mCall, f1, f2, mConsB, mNameB, mNameV, mNameM, lenD, DL.intD, liftB, liftI, toD_sh, toD_lst, List.getElem?_cons_zero, List.getElem?_cons_succ, List.map_cons, List.map_nil, pen_cells, pen_at, pen_digits, pen_count, pen_fold, put_at, put_digits, put_count, put_fold, List.set_cons_zero, List.set_cons_succ, sPut, sBind, sAsg, isSh, Bool.false_or, Bool.true_or, if_true, if_false, Bool.false_eq_true, reduceIte, addD, subI, mCallF, mHas, mConsO, fill, putBack, slotSh_s, slotSh_sh, slotSh_ct, List.tail_cons, List.head?_cons, Option.join_some, mCallF, mHas, mConsO, fill, e, putBack, pen_slot hp, List.tail_cons, List.head?_cons, Option.join_some, item_own h3 hx]
    | lst => simp only [mAndT, mOrT, mBl, mOpS, mOpN, mBind, mMap, mPure, mSubN, mSub, asSh, mCall, f1, f2, mConsB, mNameB, mNameV, mNameM, lenD, DL.intD, liftB, liftI, toD_sh, toD_lst, List.getElem?_cons_zero, List.getElem?_cons_succ, List.map_cons, List.map_nil, pen_cells, pen_at, pen_digits, pen_count, pen_fold, put_at, put_digits, put_count, put_fold, List.set_cons_zero, List.set_cons_succ, sPut, sBind, sAsg, isSh, Bool.false_or, Bool.true_or, if_true, if_false, Bool.false_eq_true, reduceIte, addD, subI, mCallF, mHas, mConsO, fill, putBack, slotSh_s, slotSh_sh, slotSh_ct, List.tail_cons, List.head?_cons, Option.join_some, mCallF, mHas, mConsO, fill, e, putBack, pen_slot hp, List.tail_cons, List.head?_cons, Option.join_some, item_lst h3 hx]
    | tup => simp only [mAndT, mOrT, mBl, mOpS, mOpN, mBind, mMap, mPure, mSubN, mSub, asSh, mCall, f1, f2, mConsB, mNameB, mNameV, mNameM, lenD, DL.intD, liftB, liftI, toD_sh, toD_lst, List.getElem?_cons_zero, List.getElem?_cons_succ, List.map_cons, List.map_nil, pen_cells, pen_at, pen_digits, pen_count, pen_fold, put_at, put_digits, put_count, put_fold, List.set_cons_zero, List.set_cons_succ, sPut, sBind, sAsg, isSh, Bool.false_or, Bool.true_or, if_true, if_false, Bool.false_eq_true, reduceIte, addD, subI, mCallF, mHas, mConsO, fill, putBack, slotSh_s, slotSh_sh, slotSh_ct, List.tail_cons, List.head?_cons, Option.join_some, mCallF, mHas, mConsO, fill, e, putBack, pen_slot hp, List.tail_cons, List.head?_cons, Option.join_some, item_tup h3 hx]
  rw [sem__law_pick, sem_ret (n := 2) rfl hs]
  rfl
theorem pen_spec {ns : List Int} (hl : ns.length ≤ 63) : ∃ p fs, sem__law_pen [.sh (.fz (ns.map D.int))] = .ok p fs ∧ PenOk 0 p := by
  suffices h : RetI (fun o _ => PenOk 0 o) (d__law_pen [some (.sh (.fz (ns.map D.int))), none, none]) by
    obtain ⟨r, ρ, e, q⟩ := h
    exact ⟨r, _, by rw [sem__law_pen, sem_ret (n := 1) rfl e], q⟩
  unfold d__law_pen
  refine w_seq (ρ' := [some (.sh (.fz (ns.map D.int))), some (.sh (.int 0)), none]) rfl ?_
  refine w_seqI (fun ρ => ∃ f u, ρ = [some (.sh (.fz (ns.map D.int))), some (.sh (.int f)), u] ∧ 0 ≤ f ∧ f < 1000000007) ?_ ?_
  · refine w_for (fun _ ρ => ∃ f u, ρ = [some (.sh (.fz (ns.map D.int))), some (.sh (.int f)), u] ∧ 0 ≤ f ∧ f < 1000000007) (ds := ns.map D.int) (ρ' := [some (.sh (.fz (ns.map D.int))), some (.sh (.int 0)), none]) rfl ⟨0, none, rfl, by decide, by decide⟩ ?_ (fun ρ h => nextI h)
    rintro i d ρ hd ⟨f, u, rfl, h1, h2⟩
    rw [List.getElem?_map] at hd
    cases hx : ns[i]? with
    | none => rw [hx] at hd; cases hd
    | some x =>
      rw [hx] at hd
      cases hd
      refine ⟨_, rfl, .inl ⟨[some (.sh (.fz (ns.map D.int))), some (.sh (.int ((f * 47 + x) % 1000000007))), some (.sh (.int x))], .inl ?_, _, _, rfl, Int.emod_nonneg _ (by decide), Int.emod_lt_of_pos _ (by decide)⟩⟩
      simp only [mAndT, mOrT, mBl, mOpS, mOpN, mBind, mMap, mPure, mSubN, mSub, asSh, mCall, f1, f2, mConsB, mNameB, mNameV, mNameM, lenD, DL.intD, liftB, liftI, toD_sh, toD_lst, List.getElem?_cons_zero, List.getElem?_cons_succ, List.map_cons, List.map_nil, pen_cells, pen_at, pen_digits, pen_count, pen_fold, put_at, put_digits, put_count, put_fold, List.set_cons_zero, List.set_cons_succ, sPut, sBind, sAsg, isSh, Bool.false_or, Bool.true_or, if_true, if_false, Bool.false_eq_true, reduceIte, addD, subI, mCallF, mHas, mConsO, fill, putBack, slotSh_s, slotSh_sh, slotSh_ct, List.tail_cons, List.head?_cons, Option.join_some, mul_of (lt512 h1 (by omega)) (lt512 (show (0 : Int) ≤ 47 by decide) (by decide)), mod_of (show (0 : Int) < 1000000007 by decide)]
  · rintro _ ⟨f, u, rfl, h1, h2⟩
    exact w_ret (r := penO (ns.map D.int) 0 0 0 f) rfl ⟨ns, 0, 0, 0, f, rfl, by unfold lim; omega, by decide, by decide, h1, by omega, by decide, by decide⟩
end DL

end

section
set_option Elab.async false
set_option linter.all false
set_option maxRecDepth 100000
namespace DL
open PySem L2 RZ PyProof.Rows

/-- data that can be compared -/
def Sh (n : Nat) (d : D) : Prop := ∃ p, toPy d = some p ∧ p.canLay0 = true ∧ p.depth ≤ n
theorem Sh.mono {n m : Nat} {d : D} (h : Sh n d) (hm : n ≤ m) : Sh m d := by
  obtain ⟨p, h1, h2, h3⟩ := h
  exact ⟨p, h1, h2, by omega⟩
end DL

end

section
set_option Elab.async false
set_option linter.all false
set_option maxRecDepth 100000
namespace DL
open PySem L2 RZ PyProof.Rows

/-- room, and nothing is being shown -/
structure Rg (k : Nat) (A : Around) : Prop where
  r : Room k A
  g : A.guards = some []
theorem Rg.mono {j k : Nat} {A : Around} (h : Rg k A) (l : j ≤ k) : Rg j A := ⟨h.r.mono l, h.g⟩
theorem Rg.deeper {k : Nat} {A : Around} (h : Rg (k + 1) A) (env : PySem.Env) : Rg k (A.deeper env) := ⟨h.r.deeper env, h.g⟩
theorem make_guards {A : Around} {C : Addr} {us : List Value} {kw : List (Str × Value)} : (A.under (.builtin "type.__call__" ⟨.ref C :: us, kw⟩)).guards = A.guards := by
  have h : Code.guards (.builtin "type.__call__" ⟨.ref C :: us, kw⟩) = [] := by
    have e : Code.isGuard (.builtin "type.__call__" ⟨.ref C :: us, kw⟩) = false := by
      show guardIds.contains "type.__call__" = false
      decide
    simp [Code.guards, e]
  show pushGuards (Code.guards (.builtin "type.__call__" ⟨.ref C :: us, kw⟩)) A.guards = _
  rw [h]
  rfl
theorem Rg.make {k : Nat} {A : Around} (h : Rg (k + 1) A) (C : Addr) (us : List Value) (kw : List (Str × Value)) : Rg k (A.under (.builtin "type.__call__" ⟨.ref C :: us, kw⟩)) := ⟨h.r.make C us kw, make_guards.trans h.g⟩

/-- a def's promise, where no repr is under way -/
structure FnG (P : Program) (w : World) (K : PySem.W.Frag) (mg : Str → Option Value) (base : Heap) (CX : CXT) (k : Nat) (f : Addr) (fd : FuncData) (ps : List Str) (sp : Sp) : Prop where
  len : ∀ vs H Q E, sp vs H Q E → vs.length = ps.length
  run : ∀ (A : Around) (outer : List PySem.Env) (s : Shared) (H : Hp) (args : PySem.Args) (us : List Value) (vs : List V) (Q : VK) (E : XK), Rg k A → Env0 P w K mg base A outer s H → BindsTo s fd args (ps.zip us) → Vals vs us → sp vs H Q E →
    codeAny (model P w) A (.call (.ref f) args) (CR CX outer P w H s Q E) s
theorem FnG.mono {P : Program} {w : World} {K : PySem.W.Frag} {mg : Str → Option Value} {base : Heap} {CX : CXT} {j k : Nat} {f : Addr} {fd : FuncData} {ps : List Str} {sp : Sp} (F : FnG P w K mg base CX j f fd ps sp) (h : j ≤ k) :
    FnG P w K mg base CX k f fd ps sp := ⟨F.len, fun A outer s H args us vs Q E hr => F.run A outer s H args us vs Q E (hr.mono h)⟩
theorem FnG.imp {P : Program} {w : World} {K : PySem.W.Frag} {mg : Str → Option Value} {base : Heap} {CX : CXT} {k : Nat} {f : Addr} {fd : FuncData} {ps : List Str} {sp sp' : Sp} (F : FnG P w K mg base CX k f fd ps sp)
    (h : ∀ vs H Q E, sp' vs H Q E → sp vs H Q E) : FnG P w K mg base CX k f fd ps sp' :=
  ⟨fun vs H Q E q => F.len vs H Q E (h _ _ _ _ q), fun A outer s H args us vs Q E hr he hb hv hs => F.run A outer s H args us vs Q E hr he hb hv (h _ _ _ _ hs)⟩

/-- a def by its body -/
theorem fn_ofG {CX : CXT} {P : Program} {w : World} {K : PySem.W.Frag} {mg : Str → Option Value} {base : Heap} {k : Nat} {f : Addr} {name qual : Str} {params : Arguments} {body : List Stmt} {scope : Scope} {dV kV doc pm cdv ct oc : Value} {an od : Option Addr}
    {osl : Array (Option Value)} {N ps : List Str} {sp : Sp} (lk : K.lookup f = some ⟨oc, od, .func (PySem.W.fnOf name qual params body scope dV kV doc pm an cdv ct), osl⟩) (hcd : PySem.W.codeIn K cdv qual = true) (S : FnScope N ps scope)
    (len : ∀ vs H Q E, sp vs H Q E → vs.length = ps.length)
    (hbody : ∀ (A : Around) (outer : List PySem.Env) (s : Shared) (H : Hp) (vs : List V) (Q : VK) (E : XK), Rg k (A.deeper (envOfC qual scope s.heap.objs.size f cdv)) → sp vs H Q E →
      ∃ t, PSs (cxOf CX P w K mg base N qual scope f cdv A outer s H E) body t ∧ t { nx := fun _ H' => Q .non H', rt := Q } (L2.start N vs) H) :
    FnG P w K mg base CX (k + 1) f (PySem.W.fnOf name qual params body scope dV kV doc pm an cdv ct) ps sp := by
  refine ⟨len, fun A outer s H args us vs Q E hr e0 hb r hsp => ?_⟩
  have hl := len _ _ _ _ hsp
  have KX : K.In s.heap := e0.mod.kin.keeps fun b o e => (e0.bs b o e).1
  have lim : s.heap.NoLimit := e0.mod.nolimit.keeps fun b o e => (e0.bs b o e).1
  have hkind : ∀ y ∈ ps.zip us, scope.names.lookup y.1 = some .local ∨ (scope.names.lookup y.1 = some .cell ∧ ((cellsFrom (s.heap.objs.size + 1) scope.names []).lookup y.1).isSome = true) := fun ⟨n, v⟩ hy => by
    rcases S.par n (List.of_mem_zip hy).1 with q | q
    · exact .inl q
    · exact .inr ⟨q, PySem.W.cellsFrom_some _ _ _ (.inl q)⟩
  refine codeAny_call_function hr.r.depth (KX _ _ lk) rfl S.co S.gen rfl (PySem.W.codeRec_of KX hcd) (hb _ _ _ _ ?_)
  refine wpAny_newFunctionEnv_cells S.kind hkind fun env he s1 x => ?_
  subst he
  refine ⟨lim.keeps x.toInCall.keep, codeAny_func ?_⟩
  obtain ⟨t, ht, hq⟩ := hbody A outer s H vs Q E (hr.deeper _) hsp
  have I : Inv (cxOf CX P w K mg base N qual scope f cdv A outer s H E) [] (L2.start N vs) H s1 := inv_start S hr.r.hd e0 hl r x
  refine wpAny_mono (ht.run [] s1 (L2.start N vs) H _ I hq) (fun fl s' hs => ?_) fun e s' hs => hs
  have fin : ∀ {σ' : L2.St} {H' : Hp} {v : V} {u : Value}, Inv (cxOf CX P w K mg base N qual scope f cdv A outer s H E) [] σ' H' s' → RelV v u → Q v H' → CE outer P w H s Q u s' :=
    fun {σ' H' v u} J rv q => ⟨v, H', J.os, J.bare, J.base, J.hok, rv, q⟩
  cases fl with
  | ret u =>
    obtain ⟨v, σ', H', J, rv, q⟩ := hs
    exact fin J rv q
  | next =>
    obtain ⟨σ', H', J, q⟩ := hs
    exact fin (v := V.non) (u := Value.none) J rfl q
  | brk =>
    obtain ⟨_, _, _, q⟩ := hs
    exact False.elim q
  | cont =>
    obtain ⟨_, _, _, q⟩ := hs
    exact False.elim q

section
variable {P : Program} {w : World} {K : PySem.W.Frag} {mg : Str → Option Value} {base : Heap}
/-- no exception leaves the def -/
theorem okG {x qual : Str} {st : Stmt} {f : Addr} {fd : FuncData} {N ps : List Str} {k : Nat} {sp : Sp} (F : Fun K x qual st f fd) (S : FnScope N ps (defScope st)) (len : ∀ vs H Q E, sp vs H Q E → vs.length = ps.length)
    (hbody : ∀ (cdv : Value) (A : Around) (outer : List PySem.Env) (s : Shared) (H : Hp) (vs : List V) (Q : VK) (E : XK), Rg k (A.deeper (envOfC qual (defScope st) s.heap.objs.size f cdv)) → sp vs H Q E →
      ∃ t, PSs (cxOf CX0 P w K mg base N qual (defScope st) f cdv A outer s H E).nox (defBody st) t ∧ t { nx := fun _ H' => Q .non H', rt := Q } (L2.start N vs) H) : FnG P w K mg base CX0 (k + 1) f fd ps sp := by
  obtain ⟨oc, od, kV, doc, pm, an, cdv, ct, osl, rfl, lk, hcd⟩ := F.ex
  refine fn_ofG lk hcd S len fun A outer s H vs Q E hr hsp => ?_
  obtain ⟨t, h, q⟩ := hbody cdv A outer s H vs Q E hr hsp
  exact ⟨t, h.nox, q⟩
/-- an exception may leave it -/
theorem okGX {x qual : Str} {st : Stmt} {f : Addr} {fd : FuncData} {N ps : List Str} {k : Nat} {sp : Sp} (F : Fun K x qual st f fd) (S : FnScope N ps (defScope st)) (len : ∀ vs H Q E, sp vs H Q E → vs.length = ps.length)
    (hbody : ∀ (cdv : Value) (A : Around) (outer : List PySem.Env) (s : Shared) (H : Hp) (vs : List V) (Q : VK) (E : XK), Rg k (A.deeper (envOfC qual (defScope st) s.heap.objs.size f cdv)) → sp vs H Q E →
      ∃ t, PSs (cxOf (L2.CX P w) P w K mg base N qual (defScope st) f cdv A outer s H E) (defBody st) t ∧ t { nx := fun _ H' => Q .non H', rt := Q } (L2.start N vs) H) : FnG P w K mg base (L2.CX P w) (k + 1) f fd ps sp := by
  obtain ⟨oc, od, kV, doc, pm, an, cdv, ct, osl, rfl, lk, hcd⟩ := F.ex
  exact fn_ofG lk hcd S len fun A outer s H vs Q E hr hsp => hbody cdv A outer s H vs Q E hr hsp
end

section
variable {X : Cx} {CX : CXT} {k : Nat} {f C : Addr} {fd : FuncData} {ps : List Str} {sp : Sp} {dvs : List V} {ds : List Value} {E : XK} {x m : Str} {p pos apos : Pos} {e o : Expr} {es : List Expr} {ta : TE} {t : TA}
/-- the callee runs; what it raises reaches what is wanted at these slots -/
theorem run_fnG {pins : List (Addr × Obj)} {σ : L2.St} {H : Hp} {s : Shared} {Q : VK} {us : List Value} {vs : List V} {E : L2.St → XK} (F : FnG X.prog X.w X.K X.mg X.base CX k f fd ps sp) (hr : Rg k X.A) (hb : Binds X.K fd ps []) (hx : PassesAt CX X σ (E σ))
    (I : Inv X pins σ H s) (r : Vals vs us) (h : sp vs H Q (E σ)) : wpAny (model X.prog X.w) X.A (call (.ref f) us) (EP X pins σ Q) X.xe s := by
  have hl : us.length = ps.length := by rw [← r.length]; exact F.len _ _ _ _ h
  have b := hb s us I.kIn (by rw [List.append_nil]; exact hl)
  rw [List.append_nil] at b
  refine wpAny_call (codeAny_mono (F.run X.A X.stack s H ⟨us, []⟩ us vs Q (E σ) hr I.env0 b r h) fun r s' hq => ?_)
  cases r with
  | error e => exact hx pins H s e s' I hq
  | ok fl =>
    cases fl with
    | ret u => exact I.after hq
    | next => exact False.elim hq
    | brk => exact False.elim hq
    | cont => exact False.elim hq
theorem pe_callG {E : L2.St → XK} (F : FnG X.prog X.w X.K X.mg X.base CX k f fd ps sp) (hr : Rg k X.A) (hg : Gl X x) (hm : X.mg x = some (.ref f)) (hk : PySem.W.keepIn X.K (.ref f) = true) (hb : Binds X.K fd ps []) (hx : ∀ σ, PassesAt CX X σ (E σ))
    (ha : PA X (e :: es) t) (hdb : (x == ("__debug__" : Str)) = false := by decide) (he : starEach (e :: es) X.env = (false, eval e X.env) :: starEach es X.env := by rfl) (hpl : (backTo pos (starEach es X.env)).any (·.1) = false := by rfl) :
    PE X (.Call (.Name x p) (e :: es) [] pos) (tCallS sp E t) := by
  refine ⟨fun pins s σ H Q I h => ?_⟩
  refine wpAny_Call_Name_kw (ld_glob I hg hm ?_ hdb)
  refine PySem.W.callWith_K (h₀ := X.base) I.ok.mod.kin hk (thn (ha.run pos pins s σ H _ I h) fun us s1 ⟨vs, H1, I1, r, q⟩ => ⟨I1.kIn, ?_⟩) he hpl
  exact run_fnG F hr hb (hx σ) I1 r q
/-- C(..): a new instance and its dict, then __init__; nothing is let out -/
theorem run_makeG {pins : List (Addr × Obj)} {σ : L2.St} {H : Hp} {s : Shared} {Q : VK} {us : List Value} {vs : List V} {E : L2.St → XK} (M : Mk X.K C f) (F : FnG X.prog X.w X.K X.mg X.base CX k f fd ps sp) (hr : Rg (k + 1) X.A) (hb : Binds X.K fd ps [])
    (hx : ∀ σ, PassesAt CX X σ (E σ)) (I : Inv X pins σ H s) (r : Vals vs us)
    (h : ∀ x dx, H x = none → H dx = none → dx ≠ x → sp (.ref x :: vs) (upd (upd H dx (.own x)) x (.ins C dx [])) (fun v H2 => v = .non ∧ Q (.ref x) H2) (E σ)) :
    wpAny (model X.prog X.w) X.A (call (.ref C) us) (EP X pins σ Q) X.xe s := by
  have hq := h (s.heap.objs.size + 1) s.heap.objs.size (I.hok.fresh (Nat.le_succ _)) (I.hok.fresh (Nat.le_refl _)) (Nat.ne_of_lt (Nat.lt_succ_self _))
  have I2 := Inv.made (C := C) I
  have r2 : Vals (V.ref (s.heap.objs.size + 1) :: vs) (Value.ref (s.heap.objs.size + 1) :: us) := .cons rfl r
  have hl : (Value.ref (s.heap.objs.size + 1) :: us).length = ps.length := by
    rw [← r2.length]
    exact F.len _ _ _ _ hq
  have b := hb _ (Value.ref (s.heap.objs.size + 1) :: us) I2.kIn (by rw [List.append_nil]; exact hl)
  rw [List.append_nil] at b
  refine wpAny_call (make_map (f := f) I.kIn M.makes M.init (beq_iff_eq.mp M.fn) (codeAny_mono (F.run _ X.stack _ _ ⟨Value.ref (s.heap.objs.size + 1) :: us, []⟩ (Value.ref (s.heap.objs.size + 1) :: us) _ _ (E σ) (hr.make C us [])
    (I2.env0.make C us []) b r2 hq) fun r s' hq' => ?_))
  cases r with
  | error e => exact hx σ pins _ _ e s' I2 hq'
  | ok fl =>
    cases fl with
    | ret u =>
      obtain ⟨v, H', I3, rv, ev, q3⟩ := I2.after hq'
      subst ev
      exact ⟨rv, ⟨V.ref (s.heap.objs.size + 1), H', I3, rfl, q3⟩⟩
    | next => exact False.elim hq'
    | brk => exact False.elim hq'
    | cont => exact False.elim hq'
def tMakeS (C : Addr) (sp : Sp) (E : L2.St → XK) (t : TA) : TE := fun σ H Q => t σ H fun vs H1 => ∀ x dx, H1 x = none → H1 dx = none → dx ≠ x →
  sp (.ref x :: vs) (upd (upd H1 dx (.own x)) x (.ins C dx [])) (fun v H2 => v = .non ∧ Q (.ref x) H2) (E σ)
theorem pe_makeG {E : L2.St → XK} (M : Mk X.K C f) (F : FnG X.prog X.w X.K X.mg X.base CX k f fd ps sp) (hr : Rg (k + 1) X.A) (hg : Gl X x) (hm : X.mg x = some (.ref C)) (hb : Binds X.K fd ps []) (hx : ∀ σ, PassesAt CX X σ (E σ))
    (ha : PA X (e :: es) t) (hdb : (x == ("__debug__" : Str)) = false := by decide) (he : starEach (e :: es) X.env = (false, eval e X.env) :: starEach es X.env := by rfl) (hpl : (backTo pos (starEach es X.env)).any (·.1) = false := by rfl) :
    PE X (.Call (.Name x p) (e :: es) [] pos) (tMakeS C sp E t) := by
  refine ⟨fun pins s σ H Q I h => ?_⟩
  refine wpAny_Call_Name_kw (ld_glob I hg hm ?_ hdb)
  refine PySem.W.callWith_K (h₀ := X.base) I.ok.mod.kin M.kp (thn (ha.run pos pins s σ H _ I h) fun us s1 ⟨vs, H1, I1, r, q⟩ => ⟨I1.kIn, ?_⟩) he hpl
  exact run_makeG M F hr hb hx I1 r q
end
theorem passAt0 {X : Cx} {E : XK} {σ : L2.St} : PassesAt CX0 X σ E := fun _ _ _ _ _ _ h => h.elim

end DL

end

section
set_option Elab.async false
set_option linter.all false
set_option maxRecDepth 100000
namespace DL
open PySem L2 RZ PyProof.Rows

/-- what a def is worth, an exception among it -/
def semX (N n : Nat) (mu : List Nat) (m : MS) : Sem := fun os => if os.length = n then match m (os.map some ++ List.replicate (N - n) none) with
  | .ret r ρ' => .ok r (keepE mu n ρ')
  | .next ρ' => .ok (.sh .non) (keepE mu n ρ')
  | .exc e ρ' => .exc e (keepE mu n ρ')
  | _ => .bad else .bad
def spX (κ : Kx) (n : Nat) (sem : Sem) : Sp := fun vs H Q E => vs.length = n ∧ ∃ A F os, G κ A F H (os.map some) (vs.map some) [] [] ∧ match sem os with
  | .ok r fs => ∀ v A' F' H', Fr A F H A' F' H' → G κ A' F' H' fs (vs.map some) [r] [v] → Q v H'
  | .exc e fs => ∀ cls d A' F' H', Fr A F H A' F' H' → G κ A' F' H' fs (vs.map some) [] [] → ExRep κ F' H' cls d e → E cls d H'
  | .bad => False
/-- a def that lets nothing out -/
theorem fn_G {P : Program} {w : World} {K : PySem.W.Frag} {mg : Str → Option Value} {base : Heap} {x qual : Str} {st : Stmt} {f : Addr} {fd : FuncData} {N ps : List Str} {k : Nat} {mu : List Nat} {m : MS} (Fu : Fun K x qual st f fd) (S : FnScope N ps (defScope st)) (hps : ps.length ≤ N.length)
    (hb : ∀ (cdv : Value) (A : Around) (outer : List PySem.Env) (s : Shared) (H : Hp) (E : XK), Rg k (A.deeper (envOfC qual (defScope st) s.heap.objs.size f cdv)) → PSs (cxOf CX0 P w K mg base N qual (defScope st) f cdv A outer s H E).nox (defBody st) (tS ⟨K, mg⟩ W0 mu m)) :
    FnG P w K mg base CX0 (k + 1) f fd ps (spX ⟨K, mg⟩ ps.length (semOf N.length ps.length mu m)) := by
  refine okG Fu S (fun vs H Q E h => h.1) fun cdv A outer s H vs Q E hr h => ⟨_, hb cdv A outer s H E hr, ?_⟩
  obtain ⟨hl, Af, F, os, g, h⟩ := h
  have ho : os.length = ps.length := by have := g.len; simp at this; omega
  have hv : (vs.map some).length = ps.length := by simp [hl]
  refine ⟨Af, F, os.map some ++ List.replicate (N.length - ps.length) none, ?_, ?_⟩
  · unfold L2.start
    rw [hl]
    exact gPad g _
  · simp only [semOf, if_pos ho] at h
    have hm : ∀ {σ' : L2.St}, (∀ i ∈ mu, σ'[i]? = (L2.start N vs)[i]?) → ∀ i ∈ mu, i < ps.length → σ'[i]? = (vs.map some)[i]? := fun q i hi hn => by
      rw [q i hi]
      unfold L2.start
      rw [List.getElem?_append_left (by rw [hv]; exact hn)]
    cases e : m (os.map some ++ List.replicate (N.length - ps.length) none) with
    | bad => rw [e] at h; exact h
    | brk _ => rw [e] at h; exact h.elim
    | cont _ => rw [e] at h; exact h.elim
    | exc _ _ => rw [e] at h; exact h.elim
    | next ρ' =>
      rw [e] at h
      intro σ' A' F' H' f' g' m'
      obtain ⟨g2, f2⟩ := (gCut g' hv (hm m')).pushSh .non
      exact h .non _ F' H' (f'.trans f2) g2
    | ret r ρ' =>
      rw [e] at h
      intro v σ' A' F' H' f' g' m'
      exact h v A' F' H' f' (gCut g' hv (hm m'))
/-- what is wanted of what a def lets out -/
def WE (E : XK) : WX' := fun cls d _ H => E cls d H
/-- a def that may let an exception out -/
theorem fn_GX {P : Program} {w : World} {K : PySem.W.Frag} {mg : Str → Option Value} {base : Heap} {x qual : Str} {st : Stmt} {f : Addr} {fd : FuncData} {N ps : List Str} {k : Nat} {mu : List Nat} {m : MS} (Fu : Fun K x qual st f fd) (S : FnScope N ps (defScope st)) (hps : ps.length ≤ N.length)
    (hb : ∀ (cdv : Value) (A : Around) (outer : List PySem.Env) (s : Shared) (H : Hp) (E : XK), Rg k (A.deeper (envOfC qual (defScope st) s.heap.objs.size f cdv)) → PSs (cxOf (L2.CX P w) P w K mg base N qual (defScope st) f cdv A outer s H E) (defBody st) (tS ⟨K, mg⟩ (WE E) mu m)) :
    FnG P w K mg base (L2.CX P w) (k + 1) f fd ps (spX ⟨K, mg⟩ ps.length (semX N.length ps.length mu m)) := by
  refine okGX Fu S (fun vs H Q E h => h.1) fun cdv A outer s H vs Q E hr h => ⟨_, hb cdv A outer s H E hr, ?_⟩
  obtain ⟨hl, Af, F, os, g, h⟩ := h
  have ho : os.length = ps.length := by have := g.len; simp at this; omega
  have hv : (vs.map some).length = ps.length := by simp [hl]
  refine ⟨Af, F, os.map some ++ List.replicate (N.length - ps.length) none, ?_, ?_⟩
  · unfold L2.start
    rw [hl]
    exact gPad g _
  · simp only [semX, if_pos ho] at h
    have hm : ∀ {σ' : L2.St}, (∀ i ∈ mu, σ'[i]? = (L2.start N vs)[i]?) → ∀ i ∈ mu, i < ps.length → σ'[i]? = (vs.map some)[i]? := fun q i hi hn => by
      rw [q i hi]
      unfold L2.start
      rw [List.getElem?_append_left (by rw [hv]; exact hn)]
    cases e : m (os.map some ++ List.replicate (N.length - ps.length) none) with
    | bad => rw [e] at h; exact h
    | brk _ => rw [e] at h; exact h.elim
    | cont _ => rw [e] at h; exact h.elim
    | exc x ρ' =>
      rw [e] at h
      intro cls d σ' A' F' H' f' g' r' m'
      exact h cls d A' F' H' f' (gCut g' hv (hm m')) r'
    | next ρ' =>
      rw [e] at h
      intro σ' A' F' H' f' g' m'
      obtain ⟨g2, f2⟩ := (gCut g' hv (hm m')).pushSh .non
      exact h .non _ F' H' (f'.trans f2) g2
    | ret r ρ' =>
      rw [e] at h
      intro v σ' A' F' H' f' g' m'
      exact h v A' F' H' f' (gCut g' hv (hm m'))

/-- there and back: what is handed to a callee, what comes back -/
theorem call_merge {κ : Kx} {A1 : Fp} {F1 H1 : Hp} {ρ1 : Env} {σ : L2.St} {τ rs : List O} {υ us vs : List V} {as : List (Option Nat)} {os : List O} (g1 : G κ A1 F1 H1 ρ1 σ (τ ++ rs) (υ ++ us)) (hlu : τ.length = υ.length) (ar : Args σ as us vs) (ef : fill as rs ρ1 = some os) (nd : (as.filterMap id).Nodup) :
    ∃ Ac, G κ Ac F1 H1 (os.map some) (vs.map some) [] [] ∧ ∀ fs ws xs A2 F2 H2, Fr Ac F1 H1 A2 F2 H2 → G κ A2 F2 H2 fs (vs.map some) ws xs → ∃ A', G κ A' F2 H2 (putBack ρ1 as fs ρ1) σ (τ ++ ws) (υ ++ xs) ∧ Fr A1 F1 H1 A' F2 H2 := by
  let f : Ix → Option Ix := fun x => match x with
    | .s j => srcIx τ.length as j
    | .t _ => none
  let Ac : Fp := fun y => match f y with
    | some x => A1 x
    | none => []
  have hc : ∀ y, Ac y = match f y with | some x => A1 x | none => [] := fun _ => rfl
  have lo : os.length = as.length := fill_len ef
  have gc := g1.re (A' := Ac) (ρ' := os.map some) (σ' := vs.map some) (τ' := []) (υ' := []) f (by simp [lo, ar.length]) rfl hc (fun x x' y e e' => by
      cases x with
      | t _ => cases e
      | s j =>
        cases x' with
        | t _ => cases e'
        | s j' => rw [srcIx_inj nd e e']) (fun x o e => by
      cases x with
      | t k => simp [atO] at e
      | s j =>
        have e1 := atO_get e
        rw [List.getElem?_map] at e1
        have e2 : os[j]? = some o := by
          cases q : os[j]? with
          | none => rw [q] at e1; cases e1
          | some z => rw [q] at e1; cases e1; rfl
        obtain ⟨y, h1, h2⟩ := srcIx_O (τ := τ) ef e2
        refine ⟨y, h1, h2, ?_⟩
        rw [hlu] at h1
        rw [srcIx_V ar h1]
        simp only [atV, List.getElem?_map]
        cases vs[j]? <;> rfl)
  refine ⟨Ac, gc.1, fun fs ws xs A2 F2 H2 f2 g2 => ?_⟩
  have lwx : ws.length = xs.length := g2.lent
  let d : Ix → Option Ix := fun x => match x with
    | .t k => if τ.length ≤ k then some (.t (k - τ.length)) else none
    | .s i => match posOf as i with
      | some j => if slotSh ρ1 i = true then none else some (.s j)
      | none => none
  let B' : Fp := fun x => match x with
    | .t k => if k < τ.length then A1 (.t k) else []
    | .s i => A1 (.s i)
  let A' : Fp := fun x => match d x with
    | some z => A2 z
    | none => B' x
  have shN : ∀ i, slotSh ρ1 i = true → A1 (.s i) = [] := fun i q => by
    unfold slotSh at q
    split at q
    · rename_i dd eq
      obtain ⟨w, h1, h2⟩ := g1.slot eq
      exact h2.sh_nil
    · cases q
  have dN : ∀ i, d (.s i) = none → slotSh ρ1 i = true ∨ some i ∉ as := fun i q => by
    have q : (match posOf as i with
      | some j => if slotSh ρ1 i = true then none else some (Ix.s j)
      | none => none) = none := q
    cases ep : posOf as i with
    | none => exact .inr (posOf_none ep)
    | some j =>
      rw [ep] at q
      simp only at q
      split at q
      · exact .inl (by assumption)
      · cases q
  have A'n : ∀ x, d x = none → A' x = B' x := fun x q => by
    show (match d x with
      | some z => A2 z
      | none => B' x) = _
    rw [q]
  have A's : ∀ x z, d x = some z → A' x = A2 z := fun x z q => by
    show (match d x with
      | some z => A2 z
      | none => B' x) = _
    rw [q]
  have hU : ∀ x, d x = none → ∀ b ∈ A' x, b ∈ A1 x ∧ ∀ y, f y ≠ some x := fun x q b hb => by
    rw [A'n x q] at hb
    cases x with
    | t k =>
      have hb : b ∈ (if k < τ.length then A1 (.t k) else []) := hb
      split at hb
      · rename_i hk
        refine ⟨hb, fun y e => ?_⟩
        cases y with
        | t _ => cases e
        | s j =>
          have := srcIx_t (show srcIx τ.length as j = some (.t k) from e)
          omega
      · simp at hb
    | s i =>
      refine ⟨hb, fun y e => ?_⟩
      rcases dN i q with z | z
      · have hb : b ∈ A1 (.s i) := hb
        rw [shN i z] at hb; simp at hb
      · cases y with
        | t _ => cases e
        | s j =>
          have := srcIx_s.mp (show srcIx τ.length as j = some (.s i) from e)
          exact z (List.mem_iff_getElem?.mpr ⟨j, this⟩)
  have dt : ∀ k z, d (.t k) = some z → τ.length ≤ k ∧ z = .t (k - τ.length) := fun k z e => by
    have e : (if τ.length ≤ k then some (Ix.t (k - τ.length)) else none) = some z := e
    split at e
    · cases e; exact ⟨by assumption, rfl⟩
    · cases e
  have dS : ∀ i z, d (.s i) = some z → ∃ j, z = .s j ∧ posOf as i = some j := fun i z e => by
    have e : (match posOf as i with
      | some j => if slotSh ρ1 i = true then none else some (Ix.s j)
      | none => none) = some z := e
    split at e
    · rename_i j ej
      split at e
      · cases e
      · cases e; exact ⟨j, rfl, ej⟩
    · cases e
  have m := gMerge (ρ' := putBack ρ1 as fs ρ1) (τ' := τ ++ ws) (υ' := υ ++ xs) (A' := A') g1 g2 f d hc f2 A's hU (fun x => by
      cases q : d x with
      | some z => rw [A's x z q]; exact g2.nd z
      | none =>
        rw [A'n x q]
        cases x with
        | t k =>
          show (if k < τ.length then A1 (.t k) else []).Nodup
          split
          · exact g1.nd _
          · exact List.nodup_nil
        | s i => exact g1.nd _) (fun x x' z e e' => by
      cases x with
      | t k =>
        obtain ⟨h1, rfl⟩ := dt k z e
        cases x' with
        | t k' =>
          obtain ⟨h2, h3⟩ := dt k' _ e'
          have h3 : k - τ.length = k' - τ.length := by injection h3
          have : k = k' := by omega
          rw [this]
        | s i' =>
          obtain ⟨j, h3, _⟩ := dS i' _ e'
          cases h3
      | s i =>
        obtain ⟨j, rfl, h1⟩ := dS i z e
        cases x' with
        | t k' =>
          obtain ⟨_, h3⟩ := dt k' _ e'
          cases h3
        | s i' =>
          obtain ⟨j', h3, h2⟩ := dS i' _ e'
          cases h3
          have h1 := posOf_get h1
          have h2 := posOf_get h2
          rw [h1] at h2
          cases h2
          rfl) (by rw [putBack_len]; exact g1.len) (by simp [hlu, lwx]) (fun x o e => by
      cases x with
      | t k =>
        by_cases hk : τ.length ≤ k
        · have ed : d (.t k) = some (.t (k - τ.length)) := if_pos hk
          simp only [atO] at e
          rw [List.getElem?_append_right hk] at e
          refine .inl ⟨.t (k - τ.length), ed, e, ?_⟩
          simp only [atV]
          rw [List.getElem?_append_right (by omega), hlu]
        · have hl : k < τ.length := by omega
          have dn : d (.t k) = none := if_neg hk
          refine .inr ⟨dn, (A'n (.t k) dn).trans (if_pos hl), .t k, ?_, ?_, rfl⟩
          · simp only [atO] at e ⊢
            rw [List.getElem?_append_left hl] at e ⊢
            exact e
          · simp only [atV]
            rw [List.getElem?_append_left (by omega), List.getElem?_append_left (by omega)]
      | s i =>
        rcases putBack_get (atO_get e) with ⟨j, h1, h2, h3⟩ | ⟨h1, h2⟩
        · cases ep : posOf as i with
          | none => exact absurd (List.mem_iff_getElem?.mpr ⟨j, h1⟩) (posOf_none ep)
          | some j' =>
            have hj : j' = j := srcIx_inj (k := 0) nd (srcIx_s.mpr (posOf_get ep)) (srcIx_s.mpr h1)
            subst hj
            have ds : d (.s i) = some (.s j') := by
              show (match posOf as i with
                | some j => if slotSh ρ1 i = true then none else some (Ix.s j)
                | none => none) = _
              rw [ep]
              simp [h3]
            refine .inl ⟨.s j', ds, by simp [atO, h2], ?_⟩
            have := srcIx_V (υ := υ) ar (srcIx_s.mpr h1)
            simp only [atV] at this ⊢
            rw [this, List.getElem?_map]
            cases vs[j']? <;> rfl
        · have dn : d (.s i) = none := by
            show (match posOf as i with
              | some j => if slotSh ρ1 i = true then none else some (Ix.s j)
              | none => none) = _
            cases ep : posOf as i with
            | none => rfl
            | some j' =>
              rcases h2 with z | z
              · exact absurd (List.mem_iff_getElem?.mpr ⟨j', posOf_get ep⟩) z
              · simp [z]
          exact .inr ⟨dn, A'n (.s i) dn, .s i, by simp [atO, h1], rfl, rfl⟩)
  exact ⟨A', m.1, m.2⟩

/-- a call, what is raised among it -/
def mCallX (sem : Sem) (as : List (Option Nat)) (ms : M (List O)) : M O := mBind ms fun rs ρ => match fill as rs ρ with
  | some os => match sem os with
    | .ok r fs => .ok r (putBack ρ as fs ρ)
    | .exc e fs => .exc e (putBack ρ as fs ρ)
    | .bad => .bad
  | none => .bad
section
variable {X : Cx} {κ : Kx} {W : WX'} {e : Expr} {es : List Expr} {n : Nat} {sem : Sem} {as : List (Option Nat)} {ms : M (List O)}
/-- from the arguments' end to the callee's promise -/
theorem callee {sem : Sem} {σ : L2.St} {Q : VK} {A A1 : Fp} {F F1 H H1 : Hp} {ρ1 : Env} {τ rs : List O} {υ us vs : List V} (hn : as.length = n) (nd : (as.filterMap id).Nodup)
    (f1 : Fr A F H A1 F1 H1) (g1 : G κ A1 F1 H1 ρ1 σ (τ ++ rs) (υ ++ us)) (hlu : τ.length = υ.length) (ar : Args σ as us vs)
    (h : Wp κ W A F H σ τ υ ((match fill as rs ρ1 with
      | some os => match sem os with
        | .ok r fs => .ok r (putBack ρ1 as fs ρ1)
        | .exc e fs => .exc e (putBack ρ1 as fs ρ1)
        | .bad => .bad
      | none => .bad : Out O)) fun r ρ' => ∀ v A' F' H', Fr A F H A' F' H' → G κ A' F' H' ρ' σ (τ ++ [r]) (υ ++ [v]) → Q v H') :
    spX κ n sem vs H1 Q (fun cls d H => W cls d σ H) := by
  cases ef : fill as rs ρ1 with
  | none => rw [ef] at h; exact h.elim
  | some os =>
  rw [ef] at h
  obtain ⟨Ac, gc, back⟩ := call_merge g1 hlu ar ef nd
  refine ⟨by rw [ar.length]; exact hn, Ac, F1, os, gc, ?_⟩
  cases es : sem os with
  | bad => simp only [es] at h; exact h.elim
  | exc x fs =>
    simp only [es] at h
    intro cls d A2 F2 H2 f2 g2 r2
    obtain ⟨A', g', f'⟩ := back fs [] [] A2 F2 H2 f2 g2
    rw [List.append_nil, List.append_nil] at g'
    exact h cls d A' F2 H2 (f1.trans f') g' r2
  | ok r fs =>
    simp only [es] at h
    intro v A2 F2 H2 f2 g2
    obtain ⟨A', g', f'⟩ := back fs [r] [v] A2 F2 H2 f2 g2
    exact h v A' F2 H2 (f1.trans f') g'
theorem de_callX (h : ∀ t, PA X es t → PE X e (tCallS (spX κ n sem) (fun σ cls d H => W cls d σ H) t)) (ha : PA X es (tAs κ W as ms))
    (hn : as.length = n := by rfl) (nd : (as.filterMap id).Nodup := by decide) : PE X e (tE κ W false (mCallX sem as ms)) :=
  pe_imp (h _ ha) fun σ H Q ⟨A, F, ρ, τ, υ, g, h⟩ => ⟨A, F, ρ, τ, υ, g, h.bind.imp fun rs ρ1 h vs us A1 F1 H1 f1 g1 l1 ar =>
    callee hn nd f1 g1 g.lent ar (h.imp fun r ρ' h v A' F' H' f' g' => h v A' F' H' (.no f') g')⟩
end
end DL

end

section
set_option Elab.async false
set_option linter.all false
set_option maxRecDepth 100000
namespace DL
open PySem L2 RZ PyProof.Rows

section
variable {κ : Kx} {A A' : Fp} {F F' H H' : Hp} {ρ ρ' : Env} {σ σ' : L2.St} {τ τ' : List O} {υ υ' : List V}
/-- the top of the stack in a slot of its own, behind all others -/
theorem G.toSlot {o : O} {v : V} (g : G κ A F H ρ σ (τ ++ [o]) (υ ++ [v])) : ∃ A', G κ A' F H (ρ ++ [some o]) (σ ++ [some v]) τ υ ∧ Fr A F H A' F H := by
  have hl : τ.length = υ.length := by have := g.lent; simp at this; exact this
  let f : Ix → Option Ix := fun x => match x with
    | .s i => if i = ρ.length then some (.t τ.length) else some (.s i)
    | .t k => if k = τ.length then none else some (.t k)
  let A' : Fp := fun x => match f x with
    | some y => A y
    | none => []
  have h := g.re (A' := A') (ρ' := ρ ++ [some o]) (σ' := σ ++ [some v]) (τ' := τ) (υ' := υ) f (by simp [g.len]) hl (fun _ => rfl) (fun x x' y e e' => by
      cases x with
      | s i =>
        have e : (if i = ρ.length then some (Ix.t τ.length) else some (.s i)) = some y := e
        split at e
        · rename_i hi; cases e
          cases x' with
          | s i' =>
            have e' : (if i' = ρ.length then some (Ix.t τ.length) else some (.s i')) = some (.t τ.length) := e'
            split at e'
            · rename_i hi'; rw [hi, hi']
            · cases e'
          | t k' =>
            have e' : (if k' = τ.length then none else some (Ix.t k')) = some (.t τ.length) := e'
            split at e'
            · cases e'
            · rename_i hk; cases e'; exact absurd rfl hk
        · cases e
          cases x' with
          | s i' =>
            have e' : (if i' = ρ.length then some (Ix.t τ.length) else some (.s i')) = some (.s i) := e'
            split at e'
            · cases e'
            · cases e'; rfl
          | t k' =>
            have e' : (if k' = τ.length then none else some (Ix.t k')) = some (.s i) := e'
            split at e' <;> cases e'
      | t k =>
        have e : (if k = τ.length then none else some (Ix.t k)) = some y := e
        split at e
        · cases e
        · rename_i hk; cases e
          cases x' with
          | s i' =>
            have e' : (if i' = ρ.length then some (Ix.t τ.length) else some (.s i')) = some (.t k) := e'
            split at e'
            · cases e'; exact absurd rfl hk
            · cases e'
          | t k' =>
            have e' : (if k' = τ.length then none else some (Ix.t k')) = some (.t k) := e'
            split at e'
            · cases e'
            · cases e'; rfl) (fun x u e => by
      cases x with
      | s i =>
        by_cases hi : i = ρ.length
        · subst hi
          refine ⟨.t τ.length, if_pos rfl, ?_, ?_⟩
          · simp [atO] at e; subst e; exact atO_top
          · rw [hl, atV_top, g.len]; simp [atV]
        · refine ⟨.s i, if_neg hi, ?_, ?_⟩
          · simp only [atO] at e ⊢
            rcases Nat.lt_or_ge i ρ.length with q | q
            · rw [List.getElem?_append_left q] at e; exact e
            · rw [List.getElem?_eq_none (by simp; omega)] at e; cases e
          · simp only [atV]
            rcases Nat.lt_or_ge i σ.length with q | q
            · rw [List.getElem?_append_left q]
            · have := g.len
              rw [List.getElem?_eq_none (by simp; omega), List.getElem?_eq_none (by omega)]
      | t k =>
        have hk : k < τ.length := by
          rcases Nat.lt_or_ge k τ.length with q | q
          · exact q
          · simp [atO, List.getElem?_eq_none q] at e
        refine ⟨.t k, if_neg (by omega), ?_, ?_⟩
        · simp only [atO] at e ⊢
          rw [List.getElem?_append_left hk]; exact e
        · simp only [atV]
          rw [List.getElem?_append_left (by omega)])
  exact ⟨A', h.1, h.2⟩
/-- the last slot, on the stack -/
theorem G.fromSlot {o : O} {v : V} (hl : ρ.length = σ.length) (g : G κ A F H (ρ ++ [some o]) (σ ++ [some v]) τ υ) : ∃ A', G κ A' F H ρ σ (τ ++ [o]) (υ ++ [v]) ∧ Fr A F H A' F H := by
  let f : Ix → Option Ix := fun x => match x with
    | .s i => if i < ρ.length then some (.s i) else none
    | .t k => if k = τ.length then some (.s ρ.length) else if k < τ.length then some (.t k) else none
  let A' : Fp := fun x => match f x with
    | some y => A y
    | none => []
  have h := g.re (A' := A') (ρ' := ρ) (σ' := σ) (τ' := τ ++ [o]) (υ' := υ ++ [v]) f hl (by simp [g.lent]) (fun _ => rfl) (fun x x' y e e' => by
      cases x with
      | s i =>
        have e : (if i < ρ.length then some (Ix.s i) else none) = some y := e
        split at e
        · rename_i hi; cases e
          cases x' with
          | s i' =>
            have e' : (if i' < ρ.length then some (Ix.s i') else none) = some (.s i) := e'
            split at e'
            · cases e'; rfl
            · cases e'
          | t k' =>
            have e' : (if k' = τ.length then some (.s ρ.length) else if k' < τ.length then some (Ix.t k') else none) = some (.s i) := e'
            split at e'
            · cases e'; exact absurd hi (Nat.lt_irrefl _)
            · split at e' <;> cases e'
        · cases e
      | t k =>
        have e : (if k = τ.length then some (.s ρ.length) else if k < τ.length then some (Ix.t k) else none) = some y := e
        split at e
        · rename_i hk; cases e
          cases x' with
          | s i' =>
            have e' : (if i' < ρ.length then some (Ix.s i') else none) = some (.s ρ.length) := e'
            split at e'
            · rename_i hi; cases e'; exact absurd hi (Nat.lt_irrefl _)
            · cases e'
          | t k' =>
            have e' : (if k' = τ.length then some (.s ρ.length) else if k' < τ.length then some (Ix.t k') else none) = some (.s ρ.length) := e'
            split at e'
            · rename_i hk'; rw [hk, hk']
            · split at e' <;> cases e'
        · split at e
          · cases e
            cases x' with
            | s i' =>
              have e' : (if i' < ρ.length then some (Ix.s i') else none) = some (.t k) := e'
              split at e' <;> cases e'
            | t k' =>
              have e' : (if k' = τ.length then some (.s ρ.length) else if k' < τ.length then some (Ix.t k') else none) = some (.t k) := e'
              split at e'
              · cases e'
              · split at e'
                · cases e'; rfl
                · cases e'
          · cases e) (fun x u e => by
      cases x with
      | s i =>
        have hi : i < ρ.length := by
          rcases Nat.lt_or_ge i ρ.length with q | q
          · exact q
          · simp [atO, List.getElem?_eq_none q] at e
        refine ⟨.s i, if_pos hi, ?_, ?_⟩
        · simp only [atO] at e ⊢
          rw [List.getElem?_append_left hi]; exact e
        · simp only [atV]
          rw [List.getElem?_append_left (by omega)]
      | t k =>
        by_cases hk : k = τ.length
        · subst hk
          rw [atO_top] at e; cases e
          refine ⟨.s ρ.length, if_pos rfl, by simp [atO], ?_⟩
          have : τ.length = υ.length := g.lent
          rw [this, atV_top, hl]
          simp [atV]
        · have hk2 : k < τ.length := by
            rcases Nat.lt_or_ge k τ.length with q | q
            · exact q
            · rw [atO_app (fun z => hk (by cases z; rfl))] at e
              simp [atO, List.getElem?_eq_none q] at e
          refine ⟨.t k, by show (if k = τ.length then some (Ix.s ρ.length) else if k < τ.length then some (.t k) else none) = _; rw [if_neg hk, if_pos hk2], ?_, ?_⟩
          · rw [atO_app (fun z => hk (by cases z; rfl))] at e
            exact e
          · have : τ.length = υ.length := g.lent
            simp only [atV]
            rw [List.getElem?_append_left (by omega)])
  exact ⟨A', h.1, h.2⟩
/-- the last slot is given up -/
theorem G.cutSlot {f : Option O} {z : Option V} (hl : ρ.length = σ.length) (g : G κ A F H (ρ ++ [f]) (σ ++ [z]) τ υ) : ∃ A', G κ A' F H ρ σ τ υ ∧ Fr A F H A' F H := by
  let f : Ix → Option Ix := fun x => match x with
    | .s i => if i < ρ.length then some (.s i) else none
    | .t k => some (.t k)
  let A' : Fp := fun x => match f x with
    | some y => A y
    | none => []
  have h := g.re (A' := A') (ρ' := ρ) (σ' := σ) (τ' := τ) (υ' := υ) f hl g.lent (fun _ => rfl) (fun x x' y e e' => by
      cases x with
      | s i =>
        have e : (if i < ρ.length then some (Ix.s i) else none) = some y := e
        split at e
        · cases e
          cases x' with
          | s i' =>
            have e' : (if i' < ρ.length then some (Ix.s i') else none) = some (.s i) := e'
            split at e'
            · cases e'; rfl
            · cases e'
          | t k' => cases e'
        · cases e
      | t k =>
        cases e
        cases x' with
        | s i' =>
          have e' : (if i' < ρ.length then some (Ix.s i') else none) = some (.t k) := e'
          split at e' <;> cases e'
        | t k' => cases e'; rfl) (fun x u e => by
      cases x with
      | s i =>
        have hi : i < ρ.length := by
          rcases Nat.lt_or_ge i ρ.length with q | q
          · exact q
          · simp [atO, List.getElem?_eq_none q] at e
        refine ⟨.s i, if_pos hi, ?_, ?_⟩
        · simp only [atO] at e ⊢
          rw [List.getElem?_append_left hi]; exact e
        · simp only [atV]
          rw [List.getElem?_append_left (by omega)]
      | t k => exact ⟨.t k, rfl, e, rfl⟩)
  exact ⟨A', h.1, h.2⟩
end

theorem Args.ext {σ : L2.St} {z : Option V} {as : List (Option Nat)} {us vs : List V} (h : Args σ as us vs) : Args (σ ++ [z]) as us vs := by
  induction h with
  | nil => exact .nil
  | slot e _ ih =>
    refine .slot ?_ ih
    rw [List.getElem?_append_left (by
      rcases Nat.lt_or_ge _ σ.length with q | q
      · exact q
      · rw [List.getElem?_eq_none q] at e; cases e)]
    exact e
  | push _ ih => exact .push ih
theorem Args.lt {σ : L2.St} {as : List (Option Nat)} {us vs : List V} (h : Args σ as us vs) : ∀ i, some i ∈ as → i < σ.length := by
  induction h with
  | nil => intro i hi; simp at hi
  | slot e _ ih =>
    intro i hi
    rcases List.mem_cons.mp hi with hi | hi
    · cases hi
      rcases Nat.lt_or_ge _ σ.length with q | q
      · exact q
      · rw [List.getElem?_eq_none q] at e; cases e
    · exact ih i hi
  | push _ ih =>
    intro i hi
    rcases List.mem_cons.mp hi with hi | hi
    · cases hi
    · exact ih i hi
theorem fill_ext {z : Option O} : ∀ {as : List (Option Nat)} {rs os : List O} {ρ : Env}, fill as rs ρ = some os → fill as rs (ρ ++ [z]) = some os
  | [], [], _, _, h => h
  | [], _ :: _, _, _, h => by simp [fill] at h
  | some i :: as, rs, os, ρ, h => by
    unfold fill at h ⊢
    cases e : ρ[i]? with
    | none => rw [e] at h; cases h
    | some q =>
      have hi : i < ρ.length := by
        rcases Nat.lt_or_ge i ρ.length with q | q
        · exact q
        · rw [List.getElem?_eq_none q] at e; cases e
      rw [List.getElem?_append_left hi, e]
      rw [e] at h
      cases q with
      | none => exact h
      | some o =>
        simp only at h ⊢
        cases e2 : fill as rs ρ with
        | none => rw [e2] at h; cases h
        | some us => rw [e2] at h; rw [fill_ext e2]; exact h
  | none :: as, [], _, _, h => by simp [fill] at h
  | none :: as, r :: rs, os, ρ, h => by
    unfold fill at h ⊢
    cases e2 : fill as rs ρ with
    | none => rw [e2] at h; cases h
    | some us => rw [e2] at h; rw [fill_ext e2]; exact h
theorem putBack_ext {x y : Option O} {ρ0 : Env} : ∀ {as : List (Option Nat)} {fs ρ : Env}, (∀ i, some i ∈ as → i < ρ0.length) → ρ.length = ρ0.length → putBack (ρ0 ++ [x]) as fs (ρ ++ [y]) = putBack ρ0 as fs ρ ++ [y]
  | [], _, _, _, _ => rfl
  | none :: as, fs, ρ, h, hl => by
    unfold putBack
    exact putBack_ext (fun i hi => h i (List.mem_cons_of_mem _ hi)) hl
  | some i :: as, fs, ρ, h, hl => by
    have hi := h i List.mem_cons_self
    have e1 : slotSh (ρ0 ++ [x]) i = slotSh ρ0 i := by
      unfold slotSh
      rw [List.getElem?_append_left hi]
    unfold putBack
    rw [e1]
    split
    · exact putBack_ext (fun i hi => h i (List.mem_cons_of_mem _ hi)) hl
    · rw [List.set_append_left _ _ (by omega)]
      exact putBack_ext (fun i hi => h i (List.mem_cons_of_mem _ hi)) (by simpa using hl)
theorem putBack_some {ρ0 : Env} {i : Nat} {as : List (Option Nat)} {f : Option O} {fs ρ : Env} : putBack ρ0 (some i :: as) (f :: fs) ρ = putBack ρ0 as fs (if slotSh ρ0 i = true then ρ else ρ.set i f) := rfl
/-- a new instance, by its __init__ -/
def mMakeX (c : Str) (sem : Sem) (as : List (Option Nat)) (ms : M (List O)) : M O := mBind ms fun rs ρ => match fill as rs ρ with
  | some os => match sem (.rc (.ob c []) [] :: os) with
    | .ok (.fd (.sh .non)) (some o :: fs) => .ok o (putBack ρ as fs ρ)
    | .exc e (_ :: fs) => .exc e (putBack ρ as fs ρ)
    | _ => .bad
  | none => .bad
section
variable {X : Cx} {κ : Kx} {W : WX'} {e : Expr} {es : List Expr} {n : Nat} {sem : Sem} {as : List (Option Nat)} {ms : M (List O)}
theorem de_makeX {c : Str} {C : Addr} (h : ∀ t, PA X es t → PE X e (tMakeS C (spX κ (n + 1) sem) (fun σ cls d H => W cls d σ H) t)) (hc : κ.mg c = some (.ref C)) (ha : PA X es (tAs κ W as ms))
    (hn : as.length = n := by rfl) (nd : (as.filterMap id).Nodup := by decide) : PE X e (tE κ W false (mMakeX c sem as ms)) :=
  pe_imp (h _ ha) fun σ H Q ⟨A, F, ρ, τ, υ, g, h⟩ => ⟨A, F, ρ, τ, υ, g, h.bind.imp fun rs ρ1 h vs us A1 F1 H1 f1 g1 l1 ar => by
    intro x dx hx hdx hne
    have hlu : τ.length = υ.length := g.lent
    cases ef : fill as rs ρ1 with
    | none => rw [ef] at h; exact h.elim
    | some os =>
    rw [ef] at h
    have hx2 : upd H1 dx (.own x) x = none := by rw [upd_ne (Ne.symm hne)]; exact hx
    obtain ⟨g2, f2⟩ := gJunk g1 (.own x) hdx
    obtain ⟨g3, f3⟩ := g2.pushNew (r := .rc (.ob c []) []) (o := .ins C dx []) hx2 rfl (.ob (fs := []) upd_same hc .nil)
    obtain ⟨A4, g4, f4⟩ := g3.toSlot
    have hlen : ρ1.length = σ.length := g1.len
    have ar2 : Args (σ ++ [some (.ref x)]) (some ρ1.length :: as) us (.ref x :: vs) := .slot (by rw [hlen]; simp) ar.ext
    have hlt := ar.lt
    have nd2 : ((some ρ1.length :: as).filterMap id).Nodup := by
      simp only [List.filterMap_cons, id]
      refine List.nodup_cons.mpr ⟨fun z => ?_, nd⟩
      obtain ⟨a, h1, h2⟩ := List.mem_filterMap.mp z
      simp only [id] at h2
      subst h2
      have := hlt _ h1
      omega
    have ef2 : fill (some ρ1.length :: as) rs (ρ1 ++ [some (.rc (.ob c []) [])]) = some (.rc (.ob c []) [] :: os) := by
      unfold fill
      rw [List.getElem?_append_right (Nat.le_refl _), fill_ext ef]
      simp
    obtain ⟨Ac, gc, back⟩ := call_merge g4 hlu ar2 ef2 nd2
    refine ⟨by simp [ar.length, hn], Ac, F1, _, gc, ?_⟩
    have hlt' : ∀ i, some i ∈ as → i < ρ1.length := fun i hi => by rw [hlen]; exact hlt i hi
    have pb : ∀ (f : Option O) (fs : Env), putBack (ρ1 ++ [some (.rc (.ob c []) [])]) (some ρ1.length :: as) (f :: fs) (ρ1 ++ [some (.rc (.ob c []) [])]) = putBack ρ1 as fs ρ1 ++ [f] := fun f fs => by
      have e1 : slotSh (ρ1 ++ [some (.rc (.ob c []) [])]) ρ1.length = false := by
        unfold slotSh
        rw [List.getElem?_append_right (Nat.le_refl _)]
        simp
      have e2 : (ρ1 ++ [some (O.rc (.ob c []) [])]).set ρ1.length f = ρ1 ++ [f] := by
        rw [List.set_append_right _ _ (Nat.le_refl _)]
        simp
      rw [putBack_some, e1, if_neg (by simp), e2]
      exact putBack_ext hlt' rfl
    have f14 := ((f1.trans f2).trans f3).trans f4
    cases es : sem (.rc (.ob c []) [] :: os) with
    | bad => simp only [es] at h; exact h.elim
    | exc y fs =>
      cases fs with
      | nil => simp only [es] at h; exact h.elim
      | cons f fs =>
        simp only [es] at h
        intro cls d A2 F2 H2 f5 g5 r5
        obtain ⟨A6, g6, f6⟩ := back (f :: fs) [] [] A2 F2 H2 f5 g5
        rw [List.append_nil, List.append_nil, pb] at g6
        obtain ⟨A7, g7, f7⟩ := G.cutSlot (by rw [putBack_len]; exact hlen) g6
        exact h cls d A7 F2 H2 ((f14.trans f6).trans f7) g7 r5
    | ok r fs =>
      simp only [es] at h
      match r, fs, h with
      | .fd (.sh .non), some o :: fs', h =>
        intro v A2 F2 H2 f5 g5
        obtain ⟨A6, g6, f6⟩ := back _ _ _ A2 F2 H2 f5 g5
        rw [pb] at g6
        obtain ⟨g7, w7, f7⟩ := g6.pop
        obtain ⟨A8, g8, f8⟩ := G.fromSlot (by rw [putBack_len]; exact hlen) g7
        exact ⟨w7.sh_v.non_v, h (.ref x) A8 F2 H2 (.no (((f14.trans f6).trans f7).trans f8)) g8⟩⟩
end

def putN (f : Str) : List Str → List Str
  | [] => [f]
  | g :: r => if g = f then g :: r else g :: putN f r
def putG {α : Type} (f : Str) (x : α) : List Str → List α → List α
  | g :: r, y :: ys => if g = f then x :: ys else y :: putG f x r ys
  | _, _ => [x]
theorem putF_fst (f : Str) (v : V) : ∀ fs : List (Str × V), (putF f v fs).map (·.1) = putN f (fs.map (·.1))
  | [] => rfl
  | (g, x) :: r => by
    unfold putF
    simp only [List.map_cons, putN]
    split
    · rfl
    · rw [List.map_cons, putF_fst f v r]
/-- a field is stored: what is owned then -/
theorem ownFs_put {κ : Kx} {F H H' : Hp} {f : Str} {q : Fd} {v : V} {S : List Addr} (wq : OwnF κ F H' q v S) : ∀ {fs : List (Str × V)} {gs : List Fd} {T : List Addr}, OwnFs κ F H gs (fs.map (·.2)) T → (∀ b ∈ T, ∀ o, H b = some o → H' b = some o) → T.Nodup → S.Nodup → (∀ b ∈ S, b ∉ T) →
    ∃ T', OwnFs κ F H' (putG f q (fs.map (·.1)) gs) ((putF f v fs).map (·.2)) T' ∧ T'.Nodup ∧ ∀ b ∈ T', b ∈ S ∨ b ∈ T
  | [], _, _, .nil, _, _, ns, _ => ⟨S ++ [], .cons wq .nil, by simpa using ns, fun b hb => .inl (by simpa using hb)⟩
  | (g, x) :: fs, _, _, .cons (f := y) (S := Sy) (T := Ty) h r, hk, nt, ns, dj => by
    simp only [List.map_cons, putG]
    unfold putF
    obtain ⟨n1, n2, n3⟩ := List.nodup_append.mp nt
    by_cases e : g = f
    · rw [if_pos e, if_pos e]
      refine ⟨S ++ Ty, .cons wq (r.mono (Same.refl _) fun b hb o eo => hk b (List.mem_append_right _ hb) o eo), List.nodup_append.mpr ⟨ns, n2, fun a ha b hb z => dj a ha (List.mem_append_right _ (z ▸ hb))⟩, fun b hb => ?_⟩
      rcases List.mem_append.mp hb with hb | hb
      · exact .inl hb
      · exact .inr (List.mem_append_right _ hb)
    · rw [if_neg e, if_neg e]
      obtain ⟨T', h1, h2, h3⟩ := ownFs_put (f := f) wq r (fun b hb => hk b (List.mem_append_right _ hb)) n2 ns fun b hb z => dj b hb (List.mem_append_right _ z)
      refine ⟨Sy ++ T', .cons (h.mono (Same.refl _) fun b hb o eo => hk b (List.mem_append_left _ hb) o eo) h1, List.nodup_append.mpr ⟨n1, h2, fun a ha b hb z => ?_⟩, fun b hb => ?_⟩
      · rcases h3 b hb with hb | hb
        · exact dj b hb (List.mem_append_left _ (z ▸ ha))
        · exact n3 a ha b hb z
      · rcases List.mem_append.mp hb with hb | hb
        · exact .inr (List.mem_append_left _ hb)
        · exact (h3 b hb).imp id fun q => List.mem_append_right _ q
/-- a field's cell is frozen -/
theorem ownFs_frz {κ : Kx} {F F' H : Hp} {f : Str} {k : Ct} {b : Addr} (eF : Same F F') (rk : Rep κ F' (.ref b) k.toD) : ∀ {fs : List (Str × V)} {gs : List Fd} {T : List Addr}, OwnFs κ F H gs (fs.map (·.2)) T → T.Nodup → lookD (fs.map (·.1)) gs f = some (.ct k) → fs.lookup f = some (.ref b) →
    ∃ T', OwnFs κ F' H (putG f (.sh k.toD) (fs.map (·.1)) gs) (fs.map (·.2)) T' ∧ b ∈ T ∧ T'.Nodup ∧ ∀ c ∈ T', c ∈ T ∧ c ≠ b
  | [], _, _, _, _, e, _ => by simp [lookD] at e
  | (g, x) :: fs, _, _, .cons (f := y) (S := Sy) (T := Ty) h r, nt, e, el => by
    simp only [List.map_cons, lookD] at e
    simp only [List.map_cons, putG]
    obtain ⟨n1, n2, n3⟩ := List.nodup_append.mp nt
    by_cases q : f = g
    · subst q
      rw [if_pos rfl] at e ⊢
      cases e
      simp at el
      subst el
      generalize hy : (V.ref b) = vv at h
      generalize hz : (Fd.ct k) = zz at h
      cases h with
      | sh _ => cases hz
      | ct w =>
        cases hy; cases hz
        exact ⟨[] ++ Ty, .cons (.sh rk) (r.mono eF fun c hc o eo => eo), by simp, by simpa using n2, fun c hc => ⟨List.mem_append_right _ (by simpa using hc), fun z => n3 b (by simp) c (by simpa using hc) z.symm⟩⟩
    · rw [if_neg q] at e
      rw [if_neg (Ne.symm q)]
      have q' : (f == g) = false := by simpa using q
      rw [List.lookup_cons, q'] at el
      obtain ⟨T', h1, h2, h3, h4⟩ := ownFs_frz eF rk r n2 e el
      refine ⟨Sy ++ T', .cons (h.mono eF fun c hc o eo => eo) h1, List.mem_append_right _ h2, List.nodup_append.mpr ⟨n1, h3, fun a ha c hc z => n3 a ha c (h4 c hc).1 z⟩, fun c hc => ?_⟩
      rcases List.mem_append.mp hc with hc | hc
      · exact ⟨List.mem_append_left _ hc, fun z => n3 c hc b h2 z⟩
      · exact ⟨List.mem_append_right _ (h4 c hc).1, (h4 c hc).2⟩
def toFd : O → Fd
  | .fd f => f
  | o => .sh o.toD
/-- self.f = e -/
def sFldX (tbl : Str → Str → Bool) (i : Nat) (f : Str) (m : M O) : MS := sBind m fun r ρ => match ρ[i]? with
  | some (some (.rc (.ob c ns) gs)) => if tbl c f = true ∧ ns.length < 1000 then .next (ρ.set i (some (.rc (.ob c (putN f ns)) (putG f (toFd r) ns gs)))) else .bad
  | _ => .bad
section
variable {X : Cx} {W : WX'} {mu : List Nat} {e k : Expr} {p q : Bool} {pos : Pos} {i : Nat} {x f : Str} {px : Pos} {tbl : Str → Str → Bool} {st : Stmt}
theorem upd_keep {H : Hp} {a : Addr} {u : HO} : ∀ b o, b ≠ a → H b = some o → upd H a u b = some o := fun b o n e => by rw [upd_ne n]; exact e
theorem setO {ρ : Env} {τ : List O} {i : Nat} {o' : O} : (∀ o, atO (ρ.set i (some o')) τ (.s i) = some o → o = o') ∧ ∀ y o, y ≠ .s i → atO (ρ.set i (some o')) τ y = some o → atO ρ τ y = some o := by
  refine ⟨fun o e => ?_, fun y o n e => ?_⟩
  · have e1 := atO_get e
    rw [List.getElem?_set] at e1
    rw [if_pos rfl] at e1
    split at e1
    · cases e1; rfl
    · cases e1
  · cases y with
    | t k => exact e
    | s j =>
      have hj : j ≠ i := fun z => n (by rw [z])
      simp only [atO] at e ⊢
      rw [List.getElem?_set_ne (Ne.symm hj)] at e
      exact e
theorem dS_fldX {m : M O} (ht : FieldsOk (kx X) tbl) (h : ∀ ta tv, PE X (.Name x px) ta → PE X e tv → PS X st (sFld X.K ta tv f)) (hi : PE X (.Name x px) (tVar i)) (he : PE X e (tE (kx X) W p m)) : PS X st (tS (kx X) W mu (sFldX tbl i f m)) :=
  ps_imp (h _ _ hi he) fun E σ H ⟨A, F, ρ, g, h⟩ => ⟨A, F, ρ, [], [], g, h.bind.imp fun r ρ1 h v A1 F1 H1 s1 g1 => by
    split at h
    · rename_i c ns gs er
      split at h
      · rename_i hcc
        obtain ⟨hcc, hlen⟩ := hcc
        obtain ⟨vr, h1, w1⟩ := g1.slot er
        obtain ⟨a, C, dx, fs, T, rfl, h2, h3, rfl, h4, h5⟩ := w1.ob_v
        obtain ⟨c1, c2⟩ := ht c f hcc C h3
        refine ⟨.ref a, h1, a, C, dx, fs, rfl, h2, c1, c2, by simpa using hlen, ?_⟩
        have tz : (([] : List O) ++ [r]).length = 1 := rfl
        have wr : Own (kx X) F1 H1 r v (A1 (.t 0)) := by
          obtain ⟨u, hu, w⟩ := g1.own (.t 0) r rfl
          have : u = v := by simp [atV] at hu; exact hu.symm
          subst this; exact w
        -- what is stored: as it is, or frozen
        have stored : ∃ F2 A2 S, G (kx X) A2 F2 H1 ρ1 σ [] [] ∧ Fr A1 F1 H1 A2 F2 H1 ∧ OwnF (kx X) F2 H1 (toFd r) v S ∧ S.Nodup ∧ (∀ b ∈ S, (∀ y, b ∉ A2 y) ∧ F2 b = none ∧ (∃ y, b ∈ A1 y)) ∧ A2 (.s i) = A1 (.s i) := by
          have g1' : G (kx X) A1 F1 H1 ρ1 σ ([] ++ [r]) ([] ++ [v]) := g1
          cases r with
          | fd q =>
            obtain ⟨g2, w2, f2⟩ := g1'.pop
            cases w2 with
            | fd w2 =>
              refine ⟨F1, _, _, g2, f2, w2, g1.nd (.t 0), fun b hb => ⟨fun y hy => ?_, g1.ff (.t 0) b hb, .t 0, hb⟩, upA_t _⟩
              have hy : b ∈ upA A1 (.t 0) [] y := hy
              by_cases z : y = .t 0
              · subst z; rw [upA_same] at hy; simp at hy
              · rw [upA_ne z] at hy
                exact g1.dj (.t 0) y b (Ne.symm z) hb hy
          | rc hd qs =>
            obtain ⟨F2, g2, f2, r2⟩ := g1'.freezeT
            obtain ⟨g3, w3, f3⟩ := g2.pop
            refine ⟨F2, _, [], g3, f2.trans f3, .sh r2, List.nodup_nil, fun b hb => absurd hb (by simp), ?_⟩
            rw [upA_t, upA_t]
        obtain ⟨F2, A2, S, g2, f2, w2, n2, d2, e2⟩ := stored
        obtain ⟨vr', h1', w1'⟩ := g2.slot er
        rw [h1] at h1'; cases h1'
        obtain ⟨a', C', dx', fs', T', ea, h2', h3', h6', h4', h5'⟩ := w1'.ob_v
        cases ea
        rw [h2] at h2'; cases h2'
        have hnd : (A2 (.s i)).Nodup := g2.nd _
        rw [h5'] at hnd
        obtain ⟨na, nT⟩ := List.nodup_cons.mp hnd
        have hS : ∀ b ∈ S, b ∉ A2 (.s i) := fun b hb => (d2 b hb).1 _
        have aS : ∀ b ∈ S, b ≠ a := fun b hb z => hS b hb (by rw [h5', z]; exact List.mem_cons_self)
        obtain ⟨T2, o1, o2, o3⟩ := ownFs_put (f := f) (H' := upd H1 a (.ins C dx (putF f v fs))) (w2.mono (Same.refl _) fun b hb o eo => upd_keep b o (aS b hb) eo) h4' (fun b hb o eo => upd_keep b o (fun z => na (z ▸ hb)) eo) nT n2 (fun b hb z => hS b hb (by rw [h5']; exact List.mem_cons_of_mem _ z))
        have aT2 : a ∉ T2 := fun z => by
          rcases o3 a z with z | z
          · exact aS a z rfl
          · exact na z
        have wn : Own (kx X) F2 (upd H1 a (.ins C dx (putF f v fs))) (.rc (.ob c (putN f (fs.map (·.1)))) (putG f (toFd r) (fs.map (·.1)) gs)) (.ref a) (a :: T2) := by
          rw [← putF_fst f v fs]
          exact .ob upd_same h3 o1
        have hH : ∀ b o, H1 b = some o → b ∉ A2 (.s i) → upd H1 a (.ins C dx (putF f v fs)) b = some o := fun b o eo nb => upd_keep b o (fun z => nb (by rw [h5', z]; exact List.mem_cons_self)) eo
        have g3 := g2.write (x := .s i) (ρ' := ρ1.set i (some (.rc (.ob c (putN f (fs.map (·.1)))) (putG f (toFd r) (fs.map (·.1)) gs)))) (τ' := []) (v := .ref a) (by simp) rfl setO.1 setO.2 (by simp [atV, h1]) wn (List.nodup_cons.mpr ⟨aT2, o2⟩)
          (fun b hb => by
            rcases List.mem_cons.mp hb with rfl | hb
            · exact .inl (by rw [h5']; exact List.mem_cons_self)
            · rcases o3 b hb with z | z
              · exact .inr ⟨(d2 b z).1, (d2 b z).2.1⟩
              · exact .inl (by rw [h5']; exact List.mem_cons_of_mem _ z)) hH
        have f3 : Fr A1 F2 H1 (upA A2 (.s i) (a :: T2)) F2 (upd H1 a (.ins C dx (putF f v fs))) := frWrite (fun b hb => by
            rcases List.mem_cons.mp hb with rfl | hb
            · exact .inl ⟨.s i, by rw [h5]; exact List.mem_cons_self⟩
            · rcases o3 b hb with z | z
              · exact .inl (d2 b z).2.2
              · exact .inl ⟨.s i, by rw [← e2, h5']; exact List.mem_cons_of_mem _ z⟩) (fun y b hb => by
            rcases f2.new y b hb with z | z
            · exact z
            · obtain ⟨o, eo, n⟩ := g2.ft y b hb
              exact absurd z (Fresh.no eo n)) (fun b hb => ⟨.s i, by rw [← e2]; exact hb⟩) hH (fun b hb => by
            by_cases z : b = a
            · subst z; rw [upd_same]; simp
            · rw [upd_ne z]; exact hb) (tbl_upd (by intro ps z; cases z)) g1.ft
        -- the frame over both
        have f4 : Fr A1 F1 H1 (upA A2 (.s i) (a :: T2)) F2 (upd H1 a (.ins C dx (putF f v fs))) := ⟨f3.keep, f3.there, f3.new, f2.grow, f2.fnew⟩
        exact h σ _ F2 _ (s1.fr.trans f4) g3 fun _ _ => rfl
      · exact h.elim
    · exact h.elim⟩

/-- the cell in a field of a slot's record -/
def fldCt (tbl : Str → Str → Bool) (ρ : Env) (i : Nat) (f : Str) : Option Ct := match ρ[i]? with
  | some (some (.rc (.ob c ns) gs)) => if tbl c f = true then match lookD ns gs f with
    | some (.ct k) => some k
    | _ => none
    else none
  | _ => none
def fldPut (ρ : Env) (i : Nat) (f : Str) (q : Fd) : Env := match ρ[i]? with
  | some (some (.rc (.ob c ns) gs)) => ρ.set i (some (.rc (.ob c ns) (putG f q ns gs)))
  | _ => ρ
theorem fldCt_of {A : Fp} {F H : Hp} {ρ : Env} {σ : L2.St} {τ : List O} {υ : List V} {κ : Kx} {k : Ct} (ht : FieldsOk κ tbl) (g : G κ A F H ρ σ τ υ) (h : fldCt tbl ρ i f = some k) : ∃ c gs a C dx fs T b, ρ[i]? = some (some (.rc (.ob c (fs.map (·.1))) gs)) ∧ σ[i]? = some (some (.ref a)) ∧ H a = some (.ins C dx fs) ∧ κ.mg c = some (.ref C) ∧ Cls κ.K C ∧ NoAttr κ.K C f ∧
    A (.s i) = a :: T ∧ OwnFs κ F H gs (fs.map (·.2)) T ∧ lookD (fs.map (·.1)) gs f = some (.ct k) ∧ fs.lookup f = some (.ref b) ∧ OwnC κ F H k b ∧ b ∈ T := by
  unfold fldCt at h
  split at h
  · rename_i c ns gs er
    split at h
    · rename_i hc
      split at h
      · rename_i k' el
        cases h
        obtain ⟨v, h1, w⟩ := g.slot er
        obtain ⟨a, C, dx, fs, T, rfl, h2, h3, rfl, h4, h5⟩ := w.ob_v
        obtain ⟨u, S, h6, h7, h8⟩ := lookup_owns h4 el
        obtain ⟨c1, c2⟩ := ht c f hc C h3
        generalize hz : (Fd.ct k) = zz at h7
        cases h7 with
        | sh _ => cases hz
        | ct w =>
          cases hz
          exact ⟨c, gs, a, C, dx, fs, T, _, er, h1, h2, h3, c1, c2, h5, h4, el, h6, w, h8 _ (by simp)⟩
      · cases h
    · cases h
  · cases h
/-- x.f as a value: a cell there is frozen -/
def mFldV (tbl : Str → Str → Bool) (i : Nat) (f : Str) : M D := fun ρ => match fldCt tbl ρ i f with
  | some k => .ok k.toD (fldPut ρ i f (.sh k.toD))
  | none => mBind (mBind (mNameB i) (fieldOf tbl f)) asSh ρ
theorem dV_fldX {pf : Pos} (ht : FieldsOk (kx X) tbl) (hi : PE X (.Name x px) (tVar i)) (hb : attributeBase (.Name x px) f X.env (eval (.Name x px) X.env) = eval (.Name x px) X.env := by rfl) : PE X (.Attribute (.Name x px) f pf) (tV (kx X) W false (mFldV tbl i f)) :=
  pe_imp (pe_either (pe_fld hi hb) (dV_B (dB_fld ht (dB_name hi) hb))) fun σ H Q ⟨A, F, ρ, τ, υ, g, h⟩ => by
    unfold mFldV at h
    split at h
    · rename_i k e0
      left
      obtain ⟨c, gs, a, C, dx, fs, T, b, er, h1, h2, h3, c1, c2, hA, ws, el, eb, wk, hbT⟩ := fldCt_of ht g e0
      refine ⟨.ref a, h1, a, C, dx, fs, .ref b, rfl, h2, c1, c2, eb, ?_⟩
      let F' : Hp := fun z => if z = b then H z else F z
      have hbF : F b = none := g.ff (.s i) b (by rw [hA]; exact List.mem_cons_of_mem _ hbT)
      have eF : Same F F' := fun z u e => by
        show (if z = b then H z else F z) = some u
        by_cases q : z = b
        · subst q; rw [hbF] at e; cases e
        · rw [if_neg q]; exact e
      have rk : Rep (kx X) F' (.ref b) k.toD := wk.rep eF (if_pos rfl)
      have hnd := g.nd (.s i)
      rw [hA] at hnd
      obtain ⟨na, nT⟩ := List.nodup_cons.mp hnd
      obtain ⟨T', o1, o2, o3, o4⟩ := ownFs_frz (F' := F') eF rk ws nT el eb
      have ep : fldPut ρ i f (.sh k.toD) = ρ.set i (some (.rc (.ob c (fs.map (·.1))) (putG f (.sh k.toD) (fs.map (·.1)) gs))) := by
        unfold fldPut; rw [er]
      have sub : ∀ y z, z ∈ upA A (.s i) (a :: T') y → z ∈ A y ∧ z ≠ b := fun y z hz => by
        by_cases q : y = .s i
        · subst q
          rw [upA_same] at hz
          rcases List.mem_cons.mp hz with rfl | hz
          · exact ⟨by rw [hA]; exact List.mem_cons_self, fun q => na (q ▸ hbT)⟩
          · exact ⟨by rw [hA]; exact List.mem_cons_of_mem _ (o4 z hz).1, (o4 z hz).2⟩
        · rw [upA_ne q] at hz
          exact ⟨hz, fun w => g.dj y (.s i) z q hz (by rw [hA, w]; exact List.mem_cons_of_mem _ hbT)⟩
      have hN : ∀ z, F' z ≠ none → F z ≠ none ∨ H z = none ∨ ∃ y, z ∈ A y := fun z e => by
        have e : (if z = b then H z else F z) ≠ none := e
        by_cases q : z = b
        · subst q
          exact .inr (.inr ⟨.s i, by rw [hA]; exact List.mem_cons_of_mem _ hbT⟩)
        · rw [if_neg q] at e; exact .inl e
      have g2 : G (kx X) (upA A (.s i) (a :: T')) F' H (fldPut ρ i f (.sh k.toD)) σ τ υ := by
        rw [ep]
        refine ⟨by simp [g.len], g.lent, fun y u e => ?_, fun y => ?_, fun y z w n hy hz => g.dj y z w n (sub y w hy).1 (sub z w hz).1, fun y z hz => ?_, fun y z hz => g.ft y z (sub y z hz).1, fun z u e => ?_, g.tabs eF hN (fun _ _ e _ => e) fun z u e => by
          have e : (if z = b then H z else F z) = some u := e
          split at e
          · exact .inl e
          · exact .inl (g.fh z u e)⟩
        · by_cases q : y = .s i
          · subst q
            rw [setO.1 u e, upA_same]
            exact ⟨.ref a, by simp [atV, h1], .ob h2 h3 o1⟩
          · obtain ⟨v', p1, p2⟩ := g.own y u (setO.2 y u q e)
            exact ⟨v', p1, by rw [upA_ne q]; exact p2.mono eF fun _ _ _ q => q⟩
        · by_cases q : y = .s i
          · subst q
            rw [upA_same]
            exact List.nodup_cons.mpr ⟨fun z => na (o4 a z).1, o3⟩
          · rw [upA_ne q]; exact g.nd y
        · show (if z = b then H z else F z) = none
          rw [if_neg (sub y z hz).2]
          exact g.ff y z (sub y z hz).1
        · have e : (if z = b then H z else F z) = some u := e
          split at e
          · exact e
          · exact g.fh z u e
      have f2 : Fr A F H (upA A (.s i) (a :: T')) F' H := Fr.mk' (fun _ _ e _ => e) (fun _ e => e) (fun _ _ e => ⟨_, e⟩) (fun y z hz => .inl ⟨y, (sub y z hz).1⟩) eF hN g.ft
      exact h _ _ F' H (.no f2) g2 rk
    · right
      exact ⟨A, F, ρ, τ, υ, g, h.imp fun d ρ' h v A' F' H' s' g' r' => h v A' F' H' (.no s'.fr) g' r'⟩
end
end DL

end

section
set_option Elab.async false
set_option linter.all false
set_option maxRecDepth 100000
namespace DL
open PySem L2 RZ PyProof.Rows

def showOk (p : PyData) : Bool := p.showable && (decide (p.shown.length ≤ lim) && decide (p.depth ≤ 100))
def keyPy : Key → PyData
  | .inl i => .int i
  | .inr x => .str x
def atomPy : D → Option PyData
  | .non => some .none
  | .bl b => some (.bool b)
  | .int i => some (.int i)
  | .str x => some (.str x)
  | _ => none
def pairPy : List Key → List D → Option (List (PyData × PyData))
  | [], [] => some []
  | k :: ks, d :: ds => match atomPy d, pairPy ks ds with
    | some p, some ps => some ((keyPy k, p) :: ps)
    | _, _ => none
  | _, _ => none
/-- what repr is told of: a flat dict among it -/
def toPyR : D → Option PyData
  | .dk ks vs => match pairPy ks vs with
    | some ps => some (.dict ps)
    | none => none
  | d => toPy d
theorem toPyR_of {d : D} {p : PyData} (h : toPy d = some p) : toPyR d = some p := by
  cases d with
  | dk ks vs => simp only [toPy] at h; cases h
  | _ => exact h
def reprD (d : D) : Option O := match toPyR d with
  | some p => if showOk p = true then some (.sh (.str p.shown)) else none
  | none => none
mutual
theorem toPy_noDict : ∀ {d : D} {p : PyData}, toPy d = some p → p.hasDict = false
  | .non, _, e => by simp only [toPy] at e; cases e; rfl
  | .bl _, _, e => by simp only [toPy] at e; cases e; rfl
  | .int _, _, e => by simp only [toPy] at e; cases e; rfl
  | .str _, _, e => by simp only [toPy] at e; cases e; rfl
  | .tup xs, _, e => by
    simp only [toPy] at e
    split at e
    · rename_i ys ey; cases e; simp only [PyData.hasDict]; exact toPys_noDict ey
    · cases e
  | .lst xs, _, e => by
    simp only [toPy] at e
    split at e
    · rename_i ys ey; cases e; simp only [PyData.hasDict]; exact toPys_noDict ey
    · cases e
  | .fz _, _, e => by simp only [toPy] at e; cases e
  | .dk _ _, _, e => by simp only [toPy] at e; cases e
  | .dt _ _, _, e => by simp only [toPy] at e; cases e
  | .ob _ _ _, _, e => by simp only [toPy] at e; cases e
theorem toPys_noDict : ∀ {ds : List D} {ps : List PyData}, toPys ds = some ps → PyData.hasDictAll ps = false
  | [], _, e => by simp only [toPys] at e; cases e; rfl
  | x :: xs, _, e => by
    simp only [toPys] at e
    split at e
    · rename_i y ys e1 e2
      cases e
      simp only [PyData.hasDictAll, toPy_noDict e1, toPys_noDict e2, Bool.or_false]
    · cases e
end
def atomV : V → Option PyData
  | .non => some .none
  | .bl b => some (.bool b)
  | .int i => some (.int i)
  | .str x => some (.str x)
  | _ => none
inductive PairR : List (Key × V) → List (PyData × PyData) → Prop
  | nil : PairR [] []
  | cons {k : Key} {v : V} {p : PyData} {kvs : List (Key × V)} {ps : List (PyData × PyData)} : atomV v = some p → PairR kvs ps → PairR ((k, v) :: kvs) ((keyPy k, p) :: ps)
/-- as repr reads it -/
def DpR (K : PySem.W.Frag) (H : Hp) (v : V) (p : PyData) : Prop := (Dp K H v p ∧ p.hasDict = false) ∨ ∃ a kvs ps, v = .ref a ∧ H a = some (.dK kvs) ∧ PairR kvs ps ∧ p = .dict ps
theorem atomV_of {κ : Kx} {F : Hp} {v : V} {d : D} {p : PyData} (r : Rep κ F v d) (e : atomPy d = some p) : atomV v = some p := by
  cases r <;> first | exact e | cases e
theorem pairR_of {κ : Kx} {F : Hp} : ∀ {kvs : List (Key × V)} {ds : List D} {ps : List (PyData × PyData)}, Reps κ F (kvs.map (·.2)) ds → pairPy (kvs.map (·.1)) ds = some ps → PairR kvs ps
  | [], ds, ps, r, e => by
    cases r
    cases e
    exact .nil
  | (k, v) :: kvs, ds, ps, r, e => by
    cases r with
    | cons r1 r2 =>
      simp only [List.map_cons, pairPy] at e
      split at e
      · rename_i p ps' e1 e2
        cases e
        exact .cons (atomV_of r1 e1) (pairR_of r2 e2)
      · cases e
theorem Rep.dpR {κ : Kx} {F : Hp} {v : V} {d : D} {p : PyData} (r : Rep κ F v d) (e : toPyR d = some p) : DpR κ.K F v p := by
  cases r with
  | dk h rs =>
    simp only [toPyR] at e
    split at e
    · rename_i ps ep
      cases e
      exact .inr ⟨_, _, ps, rfl, h, pairR_of rs ep, rfl⟩
    · cases e
  | non => exact .inl ⟨Rep.dp .non e, toPy_noDict e⟩
  | bl b => exact .inl ⟨Rep.dp (.bl b) e, toPy_noDict e⟩
  | int b => exact .inl ⟨Rep.dp (.int b) e, toPy_noDict e⟩
  | str b => exact .inl ⟨Rep.dp (.str b) e, toPy_noDict e⟩
  | tup h rs => exact .inl ⟨Rep.dp (.tup h rs) e, toPy_noDict e⟩
  | lst h rs => exact .inl ⟨Rep.dp (.lst h rs) e, toPy_noDict e⟩
  | fz h rs => exact .inl ⟨Rep.dp (.fz h rs) e, toPy_noDict e⟩
  | dt h rs => exact .inl ⟨Rep.dp (.dt h rs) e, toPy_noDict e⟩
  | ob h m rs => exact .inl ⟨Rep.dp (.ob h m rs) e, toPy_noDict e⟩
theorem pairs_read {h : Heap} : ∀ {kvs : List (Key × V)} {vs : List (Key × Value)} {ps : List (PyData × PyData)}, KV kvs vs → PairR kvs ps → PyProof.V.PairsRead h keyPy vs ps []
  | _, _, _, .nil, .nil => .nil
  | (k, v) :: kvs, (k', u) :: vs, (_, p) :: ps, .cons ⟨e, r⟩ rs, .cons e1 h2 => by
    have e : k = k' := e
    have r : RelV v u := r
    subst e
    have hd : Reads h u p [] := by
      cases v with
      | non => cases e1; cases r; exact .none
      | bl b => cases e1; cases r; exact .bool b
      | int i => cases e1; obtain ⟨t, rfl⟩ := r; exact .int i t
      | str x => cases e1; obtain ⟨t, rfl⟩ := r; exact .str x t
      | _ => cases e1
    exact PyProof.V.PairsRead.cons (as := []) (bs := []) hd (pairs_read rs h2)
/-- what is read, and that the table of modules is not in it -/
theorem DpR.reads {X : Cx} {pins : List (Addr × Obj)} {σ : L2.St} {H : Hp} {s : Shared} (I : Inv X pins σ H s) {v : V} {u : Value} {p : PyData} (h : DpR X.K H v p) (r : RelV v u) : ∃ as, Reads s.heap u p as ∧ (p.hasDict = true → sysModules ∉ as) := by
  rcases h with ⟨h, hn⟩ | ⟨a, kvs, ps, rfl, e, hp, rfl⟩
  · obtain ⟨as, rd⟩ := Dp.reads I p v u h r
    exact ⟨as, rd, PyData.noDict_hsm hn⟩
  · cases r
    obtain ⟨_, hsm, vs, kv, dd⟩ := dk_of I.hok e
    refine ⟨_, PyProof.V.reads_dictOf (enc := keyPy) (fun k key hk => ?_) dd (pairs_read kv hp), fun _ hm => ?_⟩
    · rcases keyIs_shape hk with ⟨i, t, rfl, rfl⟩ | ⟨x, t, rfl, rfl⟩
      · exact .int i t
      · exact .str x t
    · rw [List.mem_singleton] at hm
      rw [← hm] at hsm
      simp at hsm
def rRepr (K : PySem.W.Frag) : List V → Hp → VK → Prop := fun xs H Q => ∃ x p, xs = [x] ∧ DpR K H x p ∧ showOk p = true ∧ Q (.str p.shown) H
theorem cr_reprU {X : Cx} (hu : X.A.units + 110 < cLine) (hg : X.A.guards = some []) : CallR X (.builtin "repr") (rRepr X.K) := by
  rintro pins s σ H xs us Q I r ⟨x, p, rfl, hd, ho, q⟩
  obtain ⟨u, rfl, ru⟩ := vals1 r
  unfold showOk at ho
  obtain ⟨h1, h2⟩ := Bool.and_eq_true_iff.mp ho
  obtain ⟨h2, h3⟩ := Bool.and_eq_true_iff.mp h2
  have h2 : p.shown.length ≤ sizeLine := by rw [← lim_eq]; exact of_decide_eq_true h2
  have h3 : p.depth ≤ 100 := of_decide_eq_true h3
  obtain ⟨as, rd, hn⟩ := hd.reads I ru
  have fin : ∀ t, Q (.str p.shown) H → EP X pins σ Q (.str p.shown t) { s with toks := s.toks + 1 } := fun t q => ⟨.str _, H, I.tok _, ⟨_, rfl⟩, q⟩
  cases rd with
  | none => exact PySem.P.repr_of_none (fin _ q)
  | bool b => exact PySem.P.repr_of_bool (fin _ (by simpa only [PyData.shown] using q))
  | int i t => exact PySem.P.repr_of_int (by simpa [PyData.showable] using h1) (fin _ (by simpa only [PyData.shown] using q))
  | str y t => exact PySem.P.repr_of_str (fin _ (by simpa only [PyData.shown] using q)) (by simpa only [PyData.shown] using h2)
  | list a1 a2 a3 a4 => exact repr_of_reads' (.list a1 a2 a3 a4) h1 hn hg (by omega) (fun _ _ e => e) (fun h' u tk hk => ⟨.str _, H, I.kept hk, ⟨_, rfl⟩, q⟩) h2
  | tuple a1 a2 a3 a4 => exact repr_of_reads' (.tuple a1 a2 a3 a4) h1 hn hg (by omega) (fun _ _ e => e) (fun h' u tk hk => ⟨.str _, H, I.kept hk, ⟨_, rfl⟩, q⟩) h2
  | dict a1 a2 a3 a4 a5 => exact repr_of_reads' (.dict a1 a2 a3 a4 a5) h1 hn hg (by omega) (fun _ _ e => e) (fun h' u tk hk => ⟨.str _, H, I.kept hk, ⟨_, rfl⟩, q⟩) h2
theorem cr_repr {X : Cx} {k : Nat} (hr : Rg k X.A) : CallR X (.builtin "repr") (rRepr X.K) := cr_reprU (by have := hr.r.un; omega) hr.g
theorem repr_sem {κ : Kx} : Call1 κ (rRepr κ.K) reprD := by
  intro A F H ρ σ τ υ g o v B w u e Q q
  unfold reprD at e
  split at e
  · rename_i p ep
    split at e
    · rename_i ho
      cases e
      exact ⟨v, p, rfl, (w.repH g.fh).dpR ep, ho, q _ _ (fin_sh g (.str _))⟩
    · cases e
  · cases e

/-- what repr shows has at most n signs, at most dp deep -/
structure Shw (dp n : Nat) (p : PyData) : Prop where
  s : p.showable = true
  l : p.shown.length ≤ n
  d : p.depth ≤ dp
theorem Shw.mono {dp dp' n n' : Nat} {p : PyData} (h : Shw dp n p) (h1 : dp ≤ dp') (h2 : n ≤ n') : Shw dp' n' p := ⟨h.s, Nat.le_trans h.l h2, Nat.le_trans h.d h1⟩
def RB (dp n : Nat) (d : D) : Prop := ∃ p, toPy d = some p ∧ Shw dp n p
theorem RB.mono {dp dp' n n' : Nat} {d : D} (h : RB dp n d) (h1 : dp ≤ dp') (h2 : n ≤ n') : RB dp' n' d := let ⟨p, e, s⟩ := h; ⟨p, e, s.mono h1 h2⟩
theorem RB.ok {n : Nat} {d : D} (h : RB 100 n d) (hn : n ≤ 16777216) : ∃ x, reprD d = some (.sh (.str x)) := by
  obtain ⟨p, e, s⟩ := h
  refine ⟨p.shown, ?_⟩
  unfold reprD
  rw [toPyR_of e]
  have h2 : decide (p.shown.length ≤ lim) = true := decide_eq_true (Nat.le_trans s.l hn)
  simp [showOk, s.s, h2, s.d]
theorem RB.non : RB 0 4 .non := ⟨.none, by simp only [toPy], rfl, by decide, Nat.le_refl _⟩
theorem RB.bl {b : Bool} : RB 0 5 (.bl b) := ⟨.bool b, by simp only [toPy], rfl, by cases b <;> decide, Nat.le_refl _⟩
theorem log2_1920 {n : Nat} (h : n < 18446744073709551616) : n.log2 < 1920 := Nat.lt_of_lt_of_le (PySem.Flt.log2_lt_of (k := 64) (by decide) h) (by decide)
theorem RB.nat {i : Int} (h0 : 0 ≤ i) (h : i < 10000000000) : RB 0 10 (.int i) := ⟨.int i, by simp only [toPy], by
  simp only [PyData.showable]; exact decide_eq_true (log2_1920 (by omega)), by simp only [PyData.shown]; exact toString_length_le (k := 10) h0 (by decide) h, Nat.le_refl _⟩
theorem piled_le : ∀ {ts : List Str} {n : Nat}, (∀ t ∈ ts, t.length ≤ n) → piled ts ≤ ts.length * (n + 2)
  | [], _, _ => Nat.zero_le _
  | t :: r, n, h => by
    have h1 := h t List.mem_cons_self
    have h2 := piled_le (ts := r) (n := n) fun x hx => h x (List.mem_cons_of_mem _ hx)
    have e : piled (t :: r) = t.length + 2 + piled r := by simp [piled]
    rw [e, List.length_cons, Nat.succ_mul]
    omega
theorem listText_le {ts : List Str} : (listText ts).length ≤ piled ts + 2 := by
  cases ts with
  | nil => decide
  | cons t r =>
    have h := textFrom_length_pos r 1 (("[" : Str) ++ (if (0 : Nat) > 0 then ", " else "" : String) ++ t) (Nat.succ_pos 0)
    have e : ((("[" : Str) ++ (if (0 : Nat) > 0 then ", " else "" : String) ++ t)).length = 1 + t.length := by
      rw [strLen_append, strLen_append]; rfl
    have hX : (listText (t :: r)).length = (textFrom 0 "[" (t :: r)).length + 1 := by
      show (textFrom 0 "[" (t :: r) ++ "]").length = _
      rw [strLen_append]; rfl
    have hY : (textFrom 0 "[" (t :: r)).length = (textFrom 1 (("[" : Str) ++ (if (0 : Nat) > 0 then ", " else "" : String) ++ t) r).length := rfl
    rw [hX, hY, h, e, piled_cons]; omega
theorem tupleText_le {ts : List Str} : (tupleText ts).length ≤ piled ts + 2 := by
  have e : (tupleText ts).length = 1 + (Str.join ", " ts).length + ((if ts.length == 1 then ",)" else ")" : String) : Str).length := by
    unfold tupleText
    rw [strLen_append, strLen_append]
    rfl
  have e2 : ((if ts.length == 1 then ",)" else ")" : String) : Str).length ≤ 2 := by split <;> decide
  by_cases h : ts = []
  · subst h; decide
  · have := join_length_add ts h
    omega
theorem shownAll_map : ∀ (ps : List PyData), PyData.shownAll ps = ps.map PyData.shown
  | [] => rfl
  | p :: ps => by simp only [PyData.shownAll, List.map_cons, shownAll_map ps]
theorem rbAll {dp n : Nat} : ∀ {xs : List D}, (∀ x ∈ xs, RB dp n x) → ∃ ps, toPys xs = some ps ∧ ps.length = xs.length ∧ PyData.showableAll ps = true ∧ PyData.depthAll ps ≤ dp ∧ ∀ p ∈ ps, p.shown.length ≤ n
  | [], _ => ⟨[], by simp only [toPys], rfl, rfl, Nat.zero_le _, fun _ h => absurd h (by simp)⟩
  | x :: xs, h => by
    obtain ⟨p, e, s⟩ := h x List.mem_cons_self
    obtain ⟨ps, e2, h1, h2, h3, h4⟩ := rbAll fun y hy => h y (List.mem_cons_of_mem _ hy)
    refine ⟨p :: ps, by simp only [toPys, e, e2], by simp [h1], by simp only [PyData.showableAll, s.s, h2, Bool.and_self], by simp only [PyData.depthAll]; exact Nat.max_le.mpr ⟨s.d, h3⟩, fun q hq => ?_⟩
    rcases List.mem_cons.mp hq with rfl | hq
    · exact s.l
    · exact h4 q hq
theorem piled_all {ps : List PyData} {n k : Nat} (hl : ps.length ≤ k) (h : ∀ p ∈ ps, p.shown.length ≤ n) : piled (PyData.shownAll ps) ≤ k * (n + 2) := by
  rw [shownAll_map]
  refine Nat.le_trans (piled_le (n := n) fun t ht => ?_) (by rw [List.length_map]; exact Nat.mul_le_mul_right _ hl)
  obtain ⟨p, hp, rfl⟩ := List.mem_map.mp ht
  exact h p hp
theorem RB.tup {dp n k : Nat} {xs : List D} (hl : xs.length ≤ k) (h : ∀ x ∈ xs, RB dp n x) : RB (dp + 1) (k * (n + 2) + 2) (.tup xs) := by
  obtain ⟨ps, e, h1, h2, h3, h4⟩ := rbAll h
  refine ⟨.tuple ps, by simp only [toPy, e], by simpa only [PyData.showable] using h2, ?_, by simp only [PyData.depth]; omega⟩
  simp only [PyData.shown]
  exact Nat.le_trans tupleText_le (Nat.add_le_add_right (piled_all (by omega) h4) 2)
theorem RB.lst {dp n k : Nat} {xs : List D} (hl : xs.length ≤ k) (h : ∀ x ∈ xs, RB dp n x) : RB (dp + 1) (k * (n + 2) + 2) (.lst xs) := by
  obtain ⟨ps, e, h1, h2, h3, h4⟩ := rbAll h
  refine ⟨.list ps, by simp only [toPy, e], by simpa only [PyData.showable] using h2, ?_, by simp only [PyData.depth]; omega⟩
  simp only [PyData.shown]
  exact Nat.le_trans listText_le (Nat.add_le_add_right (piled_all (by omega) h4) 2)
end DL

end

section
set_option Elab.async false
set_option linter.all false
set_option maxRecDepth 100000
namespace DL
open PySem
open PySem.Sem (wp)
open AutoSeq1 (wpAny_loadPart')

theorem ent_new (l : Addr) (items : Array Value) (n : Nat) (dct : Option Addr) (sl : Array (Option Value)) :
    Meets (Builtin.«enumerate.__new__» ⟨[.type "enumerate", .ref l], []⟩) (fun _ R s => s.heap.get? l = some { cls := .type "tuple", dict := dct, data := .seq items n, slots := sl } ∧
      R (.ok (.ret (.ref (s.heap.push { cls := .type "tuple_iterator", data := .fields #[.ref l, .int 0 0] }).objs.size)))
        { s with heap := (s.heap.push { cls := .type "tuple_iterator", data := .fields #[.ref l, .int 0 0] }).push { cls := .type "enumerate", data := .fields #[.none, .bool false, .ref s.heap.objs.size, rawInt 0, .none, .none] } }) :=
  .of_wp fun prog w A R s h => by
    obtain ⟨hp, g, d, tk, os⟩ := s; obtain ⟨hl, h⟩ := h
    have hsub := sub_enumerate
    have hT : Heap.IsTuple (Shared.heap ⟨hp, g, d, tk, os⟩) l items := ⟨_, hl, rfl, n, rfl⟩
    wp_walk using wpAny_loadPart' hl
    refine wpAny_stack_any fun st => wpAny_pure ?_
    split
    · rename_i c _ _ _ _ _
      cases (c == Value.type "enumerate")
      · wp_walk using wpAny_loadPart' hl, wpAny_pyIter_tuple hT
        exact ⟨_, rfl, h⟩
      · wp_walk using wpAny_loadPart' hl, wpAny_pyIter_tuple hT
        exact ⟨_, rfl, h⟩
    · wp_walk using wpAny_loadPart' hl, wpAny_pyIter_tuple hT
      exact ⟨_, rfl, h⟩
section
variable {prog : Program} {w : World} {A : Around} {E : Value → Shared → Prop} {s : Shared}
theorem ent_call {l : Addr} {items : Array Value} {Q : Value → Shared → Prop} (hL : s.heap.IsTuple l items)
    (h : ∀ h', IsEnum h' (s.heap.objs.size + 1) s.heap.objs.size 0 .none → h'.IsTupleIter s.heap.objs.size l 0 → h'.objs.size = s.heap.objs.size + 2 →
      (∀ b o, s.heap.get? b = some o → h'.get? b = some o) → Q (.ref (s.heap.objs.size + 1)) { s with heap := h' }) :
    wpAny (model prog w) A (call (.type "enumerate") [.ref l]) Q E s := by
  obtain ⟨⟨c, dct, dt, sl⟩, hl, hc, n, hd⟩ := hL
  replace hc : c = .type "tuple" := hc
  replace hd : dt = .seq items n := hd
  subst hc hd
  refine callType_new F.called_enumerate (by decide) (F.typeCall_enumerate_1 _) (F.newCall_enumerate_1 _) (fun obj => F.args_object_init_2 obj _) F.entry_enumerate_new
    (ent_new l items n dct sl) ⟨hl, ?_⟩
  have hz : (s.heap.push { cls := .type "tuple_iterator", data := .fields #[.ref l, .int 0 0] }).objs.size = s.heap.objs.size + 1 := Heap.size_push ..
  show _ ∧ _
  rw [hz]
  have he : IsEnum ((s.heap.push { cls := .type "tuple_iterator", data := .fields #[.ref l, .int 0 0] }).push
      { cls := .type "enumerate", data := .fields #[.none, .bool false, .ref s.heap.objs.size, rawInt 0, .none, .none] }) (s.heap.objs.size + 1) s.heap.objs.size 0 .none := by
    have := Heap.get?_push_size (s.heap.push { cls := .type "tuple_iterator", data := .fields #[.ref l, .int 0 0] })
      (o := { cls := .type "enumerate", data := .fields #[.none, .bool false, .ref s.heap.objs.size, rawInt 0, .none, .none] }) rfl
    rw [hz] at this; exact this
  refine ⟨⟨_, he, rfl⟩, h _ he ⟨_, Heap.get?_push_of_some _ (Heap.get?_push_size _ rfl), rfl, rfl⟩ (by rw [Heap.size_push, hz]) fun b o x => Heap.get?_push_of_some _ (Heap.get?_push_of_some _ x)⟩
theorem ent_end {e it l : Addr} {i : Nat} {items : Array Value} {old : Value} {Q : Option Value → Shared → Prop} (hh : A.handled = none)
    (he : IsEnum s.heap e it i old) (hit : s.heap.IsTupleIter it l i) (hl : s.heap.IsTuple l items) (hx : items[i]? = none)
    (hQ : ∀ h', Heap.ExtBut it s.heap h' → Q none { s with heap := h' }) : wpAny (model prog w) A (pyNext (.ref e)) Q E s := by
  have hT : s.TypeIs (.ref e) "enumerate" := ⟨_, he, rfl⟩
  unfold pyNext
  refine wpAny_bind (wpAny_attempt (wpAny_callSpecial?_slot (name := Str.ofString "__next__") hT F.slot_enumerate_next
    (wpAny_call_entry F.slot_enumerate_next hT F.entry_enumerate_next ?_ (F.args_enumerate_next_1 _))))
  show wpAny _ _ (field (.ref e) 2 >>= _) _ _ _
  refine wpAny_bind (wpAny_field he rfl (x := .ref it) rfl ?_)
  refine wpAny_bind (RZ.nextOf_tuple_end hh hit hl hx fun h' x he' hx' => ?_)
  obtain ⟨o, ho, hc⟩ := hx'
  refine wpAny_bind (wpAny_isInstance (T := "StopIteration") (b := true) ⟨o, ho, hc⟩ isSubtype_stop ?_)
  exact wpAny_pure (hQ _ he')
end
open L2 RZ PyProof.Rows
theorem isTuple_of {h : Heap} {a : Addr} {items : Array Value} (p : IsTup h a items) : h.IsTuple a items := by
  obtain ⟨o, h1, h2, n, h3⟩ := p
  exact ⟨o, h1, h2, n, h3⟩
/-- the tuple at a, each item in a new pair -/
def ItE (K : PySem.W.Frag) (a : Addr) : It :=
  ⟨fun i H => ∃ (xs : List V) (x : V), SqT K H a xs ∧ xs[i]? = some x, fun i H v H' => ∃ T x, v = .ref T ∧ H T = none ∧ H' = upd H T (.tup [.int (i : Nat), x]) ∧ ∀ xs, SqT K H a xs → xs[i]? = some x, fun i H => ∃ xs : List V, SqT K H a xs ∧ xs.length ≤ i⟩
theorem turn_ent {P : Program} {w : World} {K : PySem.W.Frag} {elts : List Expr} {kk : Nat} {tpos : Pos} (a e it : Addr) :
    Turn P w K (.Tuple elts kk tpos) (ItE K a) [e, it] e (fun i h => (∃ old, IsEnum h e it ((i : Nat) : Int) old) ∧ h.IsTupleIter it a i ∧ e ≠ it ∧ a ≠ e ∧ a ≠ it) where
  mem := by simp
  obj := fun i h st b hb => by
    obtain ⟨⟨old, he⟩, ⟨o, ho, hc, hd⟩, _⟩ := st
    have e' : b = e ∨ b = it := by simpa using hb
    rcases e' with z | z
    · rw [z]; exact ⟨_, he, fun v q => nomatch q⟩
    · rw [z]; exact ⟨o, ho, fun v q => by rw [hd] at q; cases q⟩
  keep := fun i h h' st k => let ⟨⟨old, he⟩, hi, hne⟩ := st; ⟨⟨old, k e (by simp) _ he⟩, hi.at fun o q => k it (by simp) o q, hne⟩
  item := by
    intro X hP hw hK hc i pins s σ H E I hf st hg
    subst hP hw hK
    obtain ⟨⟨old, he⟩, hit, hne, hae, hai⟩ := st
    obtain ⟨xs, x, hq, hx⟩ := hg
    obtain ⟨its, rv, p, hz⟩ := I.tuple hq
    obtain ⟨u, hu, ru⟩ := rv.get hx
    have hel : e < s.heap.objs.size := Heap.lt_size he
    have hil : it < s.heap.objs.size := by obtain ⟨_, q, _⟩ := hit; exact Heap.lt_size q
    have hsz : i < its.toArray.size := by
      have := (List.getElem?_eq_some_iff.mp hu).1
      simpa using this
    refine wpAny_pyNext_enum_itemD (Draws.tuple (A := X.A.in1) (I.ok.hd hc) it a hai its.toArray) he ⟨hit, isTuple_of p⟩ hsz hne (by simp [hne, Ne.symm hae]) fun y h' tk hy ho hit' hT hsz' hk => ?_
    have hy' : y = u := by
      have hy : its.toArray[i]? = some y := hy
      simp at hy
      rw [hu] at hy; cases hy; rfl
    subst hy'
    refine ⟨_, rfl, wpAny_letOwnedTupleGo_enum (s := { s with heap := h', toks := tk + 1 }) ho fun h'' he' sb => ?_⟩
    have hT2 : h''.get? s.heap.objs.size = some { cls := .type "tuple", data := .seq #[.int i tk, y] } := (sb.2 _ (Nat.ne_of_gt hel)).trans hT
    have new : ObjOk X.prog X.w (upd H s.heap.objs.size (.tup [.int (i : Nat), x])) h'' s.heap.objs.size (.tup [.int (i : Nat), x]) :=
      ⟨by show 2 ≤ sizeLine; decide, [.int i tk, y], .cons ⟨_, rfl⟩ (.cons ru .nil), ⟨_, hT2, rfl, _, rfl⟩⟩
    have I1 : Inv X pins σ (upd H s.heap.objs.size (.tup [.int (i : Nat), x])) { s with heap := h'', toks := tk + 1 } :=
      I.turnedNew (ch := [e, it]) (fun b ob hb q => (sb.2 b (fun z => hb (by simp [z]))).trans (hk b ob (fun z => hb (by simp [z])) (fun z => hb (by simp [z])) q)) hf (Nat.le_refl _) new
    refine ⟨.ref s.heap.objs.size, _, I1, rfl, ⟨_, x, rfl, I.hok.fresh (Nat.le_refl _), rfl, fun ys hy => by rw [I.tuple_inj hy hq]; exact hx⟩, ⟨⟨y, ?_⟩, hit'.1.at fun o q => (sb.2 it (Ne.symm hne)).trans q, hne, hae, hai⟩, fun b hb => ?_⟩
    · have e1 : ((i + 1 : Nat) : Int) = (i : Int) + 1 := by omega
      rw [e1]; exact he'
    · have hb' : b < s.heap.objs.size := by
        have e' : b = e ∨ b = it := by simpa using hb
        rcases e' with z | z
        · rw [z]; exact hel
        · rw [z]; exact hil
      rw [upd_ne (Nat.ne_of_lt hb')]
      exact (hf b hb).1
  done := by
    intro X hP hw hK hc i pins s σ H E I hf st hg
    subst hP hw hK
    obtain ⟨⟨old, he⟩, hit, hne, hae, hai⟩ := st
    obtain ⟨xs, hq, hx⟩ := hg
    obtain ⟨its, rv, p, hz⟩ := I.tuple hq
    obtain ⟨f0, f1, f2, f3, f4, f5⟩ := hf it (by simp)
    have hl := rv.length
    exact ent_end (I.ok.hd hc) he hit (isTuple_of p) (by simp; omega) fun h' eb => ⟨rfl, I.turned (t' := s.toks) (fun b o hb q => eb b o hb q) f0 f1 f3 f4 f5⟩
  self := fun A i s Q E st h => let ⟨⟨_, he⟩, _⟩ := st; wpAny_pyIter_enum he h
def iEnt (K : PySem.W.Frag) (ta : TA) : TI := fun σ H R => ta σ H fun vs H1 => ∃ a xs, vs = [.ref a] ∧ ((SqL K H1 a xs ∧ R (Ite K a) H1) ∨ (SqT K H1 a xs ∧ R (ItE K a) H1))
theorem pi_ent {X : Cx} {e : Expr} {ta : TA} {p pos tpos : Pos} {elts : List Expr} {kk : Nat} (hg : Gl X "enumerate") (hm : X.mg "enumerate" = none) (ha : PA X [e] ta) (hs : starEach [e] X.env = [(false, eval e X.env)] := by rfl) :
    PI X (.Tuple elts kk tpos) (.Call (.Name "enumerate" p) [e] [] pos) (iEnt X.K ta) := by
  refine ⟨fun pins s σ H R I h => ?_⟩
  refine Call_ (ld_blt I hg hm boot_enumerate (PyProof.Rows.callWith_type1 (thn (ha.run pos pins s σ H _ I h) fun us s1 ⟨vs, H1, I1, r1, q1⟩ => ?_) hs rfl))
  obtain ⟨a, xs, ex, hq⟩ := q1
  subst ex
  cases r1 with
  | cons r rr =>
    cases rr
    cases r
    have fr : ∀ b ∈ [s1.heap.objs.size + 1, s1.heap.objs.size], FpOk X pins H1 b := fun b hb => by
      have e' : b = s1.heap.objs.size + 1 ∨ b = s1.heap.objs.size := by simpa using hb
      have hle : s1.heap.objs.size ≤ b := by
        rcases e' with z | z
        · rw [z]; exact Nat.le_add_right _ _
        · rw [z]; exact Nat.le_refl _
      exact I1.fpOk hle (I1.hok.fresh hle)
    rcases hq with ⟨hq, q⟩ | ⟨hq, q⟩
    · obtain ⟨its, rv, p', hz⟩ := I1.list hq
      refine call_enumerate_list p'.isList fun h' he hit hsz hk => wpAny_pyIter_enum he ?_
      have I2 : Inv X pins σ H1 { s1 with heap := h' } := I1.kept (t' := s1.toks) hk
      exact ⟨s1.heap.objs.size + 1, [s1.heap.objs.size + 1, s1.heap.objs.size], _, _, H1, rfl, I2, turn_enum a (s1.heap.objs.size + 1) s1.heap.objs.size, ⟨⟨.none, he⟩, hit, Nat.succ_ne_self _⟩, fr, q⟩
    · obtain ⟨its, rv, p', hz⟩ := I1.tuple hq
      have hal : a < s1.heap.objs.size := by obtain ⟨_, q, _⟩ := isTuple_of p'; exact Heap.lt_size q
      refine ent_call (isTuple_of p') fun h' he hit hsz hk => wpAny_pyIter_enum he ?_
      have I2 : Inv X pins σ H1 { s1 with heap := h' } := I1.kept (t' := s1.toks) hk
      exact ⟨s1.heap.objs.size + 1, [s1.heap.objs.size + 1, s1.heap.objs.size], _, _, H1, rfl, I2, turn_ent a (s1.heap.objs.size + 1) s1.heap.objs.size, ⟨⟨.none, he⟩, hit, Nat.succ_ne_self _, Nat.ne_of_lt (Nat.lt_succ_of_lt hal), Nat.ne_of_lt hal⟩, fr, q⟩
theorem jok_ent {κ : Kx} {F : Hp} {a : Addr} {vs : List V} {ds : List D} (h : F a = some (.tup vs)) (r : Reps κ F vs ds) : JOk κ (ItE κ.K a) F (enumD 0 ds) where
  go := fun i F1 H1 e1 e2 hi => by
    rw [enumD_len] at hi
    have hi' : i < vs.length := by rw [r.length]; exact hi
    exact ⟨vs, vs[i], SqT.of (e2 _ _ (e1 _ _ h)), by simp [hi']⟩
  yld := fun i d A F1 H1 ρ σ τ υ x H2 e1 g ed ⟨T, u, ex, hT, eH, y⟩ => by
    subst ex eH
    obtain ⟨w, h1, rfl⟩ := enumD_get ed
    obtain ⟨v, h3, h4⟩ := r.get i h1
    have := y vs (SqT.of (g.fh _ _ (e1 _ _ h)))
    rw [h3] at this; cases this
    rw [Nat.zero_add]
    exact new_tup g hT (.cons (.int _) (.cons (h4.mono e1) .nil))
  stop := fun i F1 H1 e1 e2 hi => by
    rw [enumD_len] at hi
    exact ⟨vs, SqT.of (e2 _ _ (e1 _ _ h)), by rw [r.length]; exact hi⟩
def enumA : List D → M (List D)
  | [.lst xs] => mPure (enumD 0 xs)
  | [.tup xs] => mPure (enumD 0 xs)
  | _ => fun _ => .bad
section
variable {X : Cx} {W : WX'} {p : Bool} {tg e : Expr}
theorem dI_enumA {ms : M (List D)} (h : PI X tg e (iEnt X.K (tVs (kx X) W p ms))) : PI X tg e (tIt (kx X) W p (mBind ms enumA)) :=
  pi_imp h fun σ H R ⟨A, F, ρ, τ, υ, g, h⟩ => ⟨A, F, ρ, τ, υ, g, h.bind.imp fun ds ρ' h vs A' F' H' s g' r => by
    unfold enumA at h
    split at h
    · cases r with
      | cons r r2 =>
        cases r2
        obtain ⟨c, vs, rfl, h2, h3⟩ := r.lst_v
        exact ⟨c, vs, rfl, .inl ⟨SqL.of (g'.fh _ _ h2), h _ A' F' H' s g' (jok_enum h2 h3)⟩⟩
    · cases r with
      | cons r r2 =>
        cases r2
        obtain ⟨c, vs, rfl, h2, h3⟩ := r.tup_v
        exact ⟨c, vs, rfl, .inr ⟨SqT.of (g'.fh _ _ h2), h _ A' F' H' s g' (jok_ent h2 h3)⟩⟩
    · exact h.elim⟩
end
end DL

end

section
set_option Elab.async false
set_option linter.all false
set_option maxRecDepth 100000
namespace DL
open PySem L2 RZ PyProof.Rows

def mNewK : M O := mPure (.fd (.ct (.dk [] [])))
def mNewT : M O := mPure (.fd (.ct (.dt [] [])))
section
variable {X : Cx} {κ : Kx} {W : WX'} {pos : Pos}
end

def dgetO : O → D → Option (Option D)
  | .fd (.ct (.dk ks vs)), k | .fd (.sh (.dk ks vs)), k => match keyD k with
    | some k => some (lookK ks vs k)
    | none => none
  | .fd (.ct (.dt ks vs)), .tup k | .fd (.sh (.dt ks vs)), .tup k => match keysD k with
    | some k => some (lookK ks vs k)
    | none => none
  | _, _ => none
def isDk : O → Bool
  | .fd (.ct (.dk _ _)) | .fd (.sh (.dk _ _)) | .fd (.ct (.dt _ _)) | .fd (.sh (.dt _ _)) => true
  | _ => false
/-- d.get(k), d in the slot i -/
def mGet1 (i : Nat) (mk : M D) : M D := fun ρ => match ρ[i]? with
  | some (some o) => if isDk o = true then mBind mk (fun k ρ1 => match ρ1[i]? with
    | some (some o1) => match dgetO o1 k with
      | some r => .ok (r.getD .non) ρ1
      | none => .bad
    | _ => .bad) ρ else .bad
  | _ => .bad
def mGet2 (i : Nat) (mk md : M D) : M D := fun ρ => match ρ[i]? with
  | some (some o) => if isDk o = true then mBind mk (fun k => mBind md fun d ρ1 => match ρ1[i]? with
    | some (some o1) => match dgetO o1 k with
      | some r => .ok (r.getD d) ρ1
      | none => .bad
    | _ => .bad) ρ else .bad
  | _ => .bad
section
variable {X : Cx} {W : WX'} {p q : Bool} {x : Str} {px apos cpos : Pos} {i : Nat} {k e : Expr}
end

def orE (f f' : D → Option O) (d : D) : Option O := match f d with
  | some o => some o
  | none => f' d
theorem Call1.or {κ : Kx} {r r' : List V → Hp → VK → Prop} {f f' : D → Option O} (h : Call1 κ r f) (h' : Call1 κ r' f') : Call1 κ (fun xs H Q => r xs H Q ∨ r' xs H Q) (orE f f') := by
  intro A F H ρ σ τ υ g o v B w u e Q q
  unfold orE at e
  split at e
  · rename_i o' eo
    cases e
    exact .inl (h A F H ρ σ τ υ g o v B w u eo Q q)
  · exact .inr (h' A F H ρ σ τ υ g o v B w u e Q q)
section
variable {X : Cx}
end
mutual
theorem Rep.noTbl {κ : Kx} {H : Hp} : ∀ {v : V} {d : D}, Rep κ H v d → Rep κ (noTbl H) v d
  | _, _, .non => .non
  | _, _, .bl b => .bl b
  | _, _, .int i => .int i
  | _, _, .str x => .str x
  | _, _, .tup h r => .tup (noTbl_of h fun _ z => by cases z) (Reps.noTbl r)
  | _, _, .lst h r => .lst (noTbl_of h fun _ z => by cases z) (Reps.noTbl r)
  | _, _, .fz h r => .fz (by
      rcases h with (h | ⟨o, h⟩) | h
      · exact .inl (.inl (noTbl_of h fun _ z => by cases z))
      · exact .inl (.inr ⟨o, noTbl_of h fun _ z => by cases z⟩)
      · exact .inr h) (Reps.noTbl r)
  | _, _, .dk h r => .dk (noTbl_of h fun _ z => by cases z) (Reps.noTbl r)
  | _, _, .dt h r => .dt (noTbl_of h fun _ z => by cases z) (Reps.noTbl r)
  | _, _, .ob h m r => .ob (noTbl_of h fun _ z => by cases z) m (Reps.noTbl r)
theorem Reps.noTbl {κ : Kx} {H : Hp} : ∀ {vs : List V} {ds : List D}, Reps κ H vs ds → Reps κ (noTbl H) vs ds
  | _, _, .nil => .nil
  | _, _, .cons h r => .cons (Rep.noTbl h) (Reps.noTbl r)
end
end DL

end

section
set_option Elab.async false
set_option linter.all false
set_option maxRecDepth 100000
namespace DL
open PySem L2 RZ PyProof.Rows

theorem huG {A : Around} {k : Nat} (hr : Rg k A) : A.units + 1 < cLine := hu_of hr.r
theorem huG64 {A : Around} {k : Nat} (hr : Rg k A) : A.units + 64 < cLine := hu64 hr.r
/-- a def that can be called by its name -/
structure CalG (P : Program) (w : World) (K : PySem.W.Frag) (mg : Str → Option Value) (base : Heap) (k : Nat) (x : Str) (ps : List Str) (sem : Sem) : Prop where
  ex : ∃ (f : Addr) (fd : FuncData), FnG P w K mg base CX0 k f fd ps (spX ⟨K, mg⟩ ps.length sem) ∧ mg x = some (.ref f) ∧ PySem.W.keepIn K (.ref f) = true ∧ Binds K fd ps []
/-- a class that can be made -/
structure MakG (P : Program) (w : World) (K : PySem.W.Frag) (mg : Str → Option Value) (base : Heap) (k : Nat) (c : Str) (ps : List Str) (sem : Sem) : Prop where
  ex : ∃ (C f : Addr) (fd : FuncData), Mk K C f ∧ FnG P w K mg base CX0 k f fd ps (spX ⟨K, mg⟩ ps.length sem) ∧ mg c = some (.ref C) ∧ Binds K fd ps []
/-- a method that can be called -/
structure MetG (P : Program) (w : World) (K : PySem.W.Frag) (mg : Str → Option Value) (base : Heap) (k : Nat) (c m : Str) (ps : List Str) (sem : Sem) : Prop where
  ex : ∃ (C f : Addr) (fd : FuncData), Cls K C ∧ Meth K C m f ∧ FnG P w K mg base CX0 k f fd ps (spX ⟨K, mg⟩ ps.length sem) ∧ mg c = some (.ref C) ∧ Binds K fd ps []
theorem callF_X {κ : Kx} {W : WX'} {p : Bool} {sem : Sem} {as : List (Option Nat)} {ms : M (List O)} : ∀ σ H Q, tE κ W p (mCallF sem as ms) σ H Q → tE κ W p (mCallX sem as ms) σ H Q := fun σ H Q ⟨A, F, ρ, τ, υ, g, h⟩ => by
  refine ⟨A, F, ρ, τ, υ, g, ?_⟩
  unfold mCallF at h
  unfold mCallX
  unfold mBind at h ⊢
  cases e : ms ρ with
  | bad => rw [e] at h; exact h
  | exc x ρ' => rw [e] at h; exact h
  | ok rs ρ' =>
    rw [e] at h
    simp only at h ⊢
    cases ef : fill as rs ρ' with
    | none => rw [ef] at h; exact h
    | some os =>
      rw [ef] at h
      simp only at h ⊢
      cases es : sem os with
      | bad => rw [es] at h; exact h
      | exc x fs => rw [es] at h; exact h.elim
      | ok r fs => rw [es] at h; exact h
section
variable {X : Cx} {W : WX'} {x c m : Str} {p px apos pos : Pos} {e : Expr} {es : List Expr} {j k i : Nat} {ps : List Str} {sem : Sem} {as : List (Option Nat)} {ms : M (List O)}
theorem de_callG (C : CalG X.prog X.w X.K X.mg X.base j x ps sem) (hr : Rg k X.A) (hjk : j ≤ k) (hg : Gl X x) (ha : PA X (e :: es) (tAs (kx X) W as ms))
    (hn : as.length = ps.length := by rfl) (nd : (as.filterMap id).Nodup := by decide) (hdb : (x == ("__debug__" : Str)) = false := by decide) (he : starEach (e :: es) X.env = (false, eval e X.env) :: starEach es X.env := by rfl) (hpl : (backTo pos (starEach es X.env)).any (·.1) = false := by rfl) :
    PE X (.Call (.Name x p) (e :: es) [] pos) (tE (kx X) W false (mCallF sem as ms)) := by
  obtain ⟨f, fd, F, m, kp, b⟩ := C.ex
  exact pe_imp (de_callX (fun t h => pe_callG (F.mono hjk) (hr.mono (Nat.le_refl _)) hg m kp b (fun σ => passAt0) h hdb he hpl) ha hn nd) callF_X
theorem de_makeG (C : MakG X.prog X.w X.K X.mg X.base j c ps sem) (hr : Rg k X.A) (hjk : j + 1 ≤ k) (hg : Gl X c) (ha : PA X (e :: es) (tAs (kx X) W as ms))
    (hn : as.length + 1 = ps.length := by rfl) (nd : (as.filterMap id).Nodup := by decide) (hdb : (c == ("__debug__" : Str)) = false := by decide) (he : starEach (e :: es) X.env = (false, eval e X.env) :: starEach es X.env := by rfl) (hpl : (backTo pos (starEach es X.env)).any (·.1) = false := by rfl) :
    PE X (.Call (.Name c p) (e :: es) [] pos) (tE (kx X) W false (mMakeX c sem as ms)) := by
  obtain ⟨C, f, fd, M, F, m, b⟩ := C.ex
  rw [← hn] at F
  exact de_makeX (fun t h => pe_makeG M F (hr.mono hjk) hg m b (fun σ => passAt0) h hdb he hpl) m ha rfl nd
end
/-- the law itself -/
theorem fn_lawG {P : Program} {w : World} {K : PySem.W.Frag} {mg : Str → Option Value} {base : Heap} {CX : CXT} {k : Nat} {f : Addr} {fd : FuncData} {ps : List Str} {sem : Sem} (F : FnG P w K mg base CX k f fd ps (spX ⟨K, mg⟩ 1 sem))
    (h : ∀ ns : List Int, ns.length ≤ 63 → ∃ fs, sem [.sh (.fz (ns.map D.int))] = .ok (.sh (.bl true)) fs) : FnG P w K mg base CX k f fd ps (spLaw K) := by
  refine F.imp fun vs H Q E ⟨a, ns, e, hs, hl, ht, q⟩ => ?_
  subst e
  obtain ⟨fs, ef⟩ := h ns hl
  refine ⟨rfl, fun _ => [], noTbl H, [.sh (.fz (ns.map D.int))], gLaw hs ht, ?_⟩
  · rw [ef]
    intro v A' F' H' f' g'
    have g'' : G ⟨K, mg⟩ A' F' H' fs ([V.ref a].map some) ([] ++ [.sh (.bl true)]) ([] ++ [v]) := g'
    obtain ⟨_, w, _⟩ := g''.pop
    rw [w.sh_v.bl_v]
    exact q H'
end DL

end

section
set_option Elab.async false
set_option linter.all false
set_option maxRecDepth 100000
namespace DL
open PySem L2 RZ PyProof.Rows

def wM {α : Type} (o : Out α) (Q : α → Env → Prop) (X : D → Env → Prop) : Prop := match o with
  | .ok a ρ => Q a ρ
  | .exc e ρ => X e ρ
  | .bad => False
def wO {α : Type} (o : Option α) (Q : α → Prop) : Prop := match o with
  | some a => Q a
  | none => False
/-- nothing may be raised -/
abbrev nX : D → Env → Prop := fun _ _ => False
structure Ks where
  n : Env → Prop
  r : O → Env → Prop
  b : Env → Prop
  c : Env → Prop
  x : D → Env → Prop
def wS (o : OutS) (K : Ks) : Prop := match o with
  | .bad => False
  | .next ρ => K.n ρ
  | .ret r ρ => K.r r ρ
  | .brk ρ => K.b ρ
  | .cont ρ => K.c ρ
  | .exc e ρ => K.x e ρ
section
variable {α β : Type} {ρ : Env} {Q : α → Env → Prop} {X : D → Env → Prop} {K : Ks}
theorem wO_some {a : α} {q : α → Prop} : wO (some a) q = q a := (rfl)
theorem wO_none {q : α → Prop} : wO none q = False := (rfl)
theorem wO_ite {c : Prop} [Decidable c] {a : α} {q : α → Prop} : wO (if c then some a else none) q = (c ∧ q a) := by
  by_cases h : c <;> simp [h, wO]
theorem wM_ok {a : α} : wM (.ok a ρ) Q X = Q a ρ := (rfl)
theorem wM_bad : wM (.bad : Out α) Q X = False := (rfl)
theorem wM_get {o : Out α} (h : wM o Q nX) : ∃ a ρ, o = .ok a ρ ∧ Q a ρ := by
  cases o with
  | bad => exact h.elim
  | ok a ρ => exact ⟨a, ρ, rfl, h⟩
  | exc e ρ => exact h.elim
theorem wM_pure {a : α} : wM (mPure a ρ) Q X = Q a ρ := (rfl)
theorem wM_bind {m : M β} {k : β → M α} : wM (mBind m k ρ) Q X = wM (m ρ) (fun b ρ' => wM (k b ρ') Q X) X := by
  unfold mBind
  cases m ρ <;> rfl
theorem wM_map {m : M β} {f : β → α} : wM (mMap f m ρ) Q X = wM (m ρ) (fun b ρ' => Q (f b) ρ') X := by
  unfold mMap
  cases m ρ <;> rfl
theorem wM_iteB {c : Prop} [Decidable c] {m : M α} : wM ((if c then m else fun _ => .bad) ρ) Q X = (c ∧ wM (m ρ) Q X) := by
  by_cases h : c <;> simp [h, wM]
theorem wM_iteM {c : Prop} [Decidable c] {m n : M α} : wM ((if c then m else n) ρ) Q X = (if c then wM (m ρ) Q X else wM (n ρ) Q X) := by
  by_cases h : c <;> simp [h]
end
section
variable {ρ : Env} {X : D → Env → Prop} {K : Ks} {i : Nat}
theorem wM_nameB {Q : Option Nat × O → Env → Prop} : wM (mNameB i ρ) Q X = wO (ρ[i]?).join fun o => Q (some i, o) ρ := by
  unfold mNameB
  cases ρ[i]? with
  | none => rfl
  | some o => cases o <;> rfl
def shO : O → Option D
  | .fd (.sh d) => some d
  | _ => none
theorem wM_nameS {Q : D → Env → Prop} : wM (mNameS i ρ) Q X = wO (ρ[i]?).join fun o => wO (shO o) fun d => Q d ρ := by
  unfold mNameS
  cases ρ[i]? with
  | none => rfl
  | some o =>
    cases o with
    | none => rfl
    | some o =>
      cases o with
      | fd f => cases f <;> rfl
      | rc h fs => rfl
theorem wM_nameV {Q : D → Env → Prop} : wM (mNameV i ρ) Q X = wO (ρ[i]?).join fun o => Q o.toD (ρ.set i (some (.sh o.toD))) := by
  unfold mNameV
  cases ρ[i]? with
  | none => rfl
  | some o => cases o <;> rfl
theorem wM_nameM {Q : O → Env → Prop} : wM (mNameM i ρ) Q X = wO (ρ[i]?).join fun o => Q o (ρ.set i none) := by
  unfold mNameM
  cases ρ[i]? with
  | none => rfl
  | some o => cases o <;> rfl
theorem wM_asSh {z : Option Nat × O} {Q : D → Env → Prop} : wM (asSh z ρ) Q X = wO (shO z.2) fun d => Q d ρ := by
  obtain ⟨a, o⟩ := z
  cases o with
  | fd f => cases f <;> rfl
  | rc h fs => rfl
theorem wM_cons {m : M D} {ms : M (List D)} {Q : List D → Env → Prop} : wM (mCons m ms ρ) Q X = wM (m ρ) (fun d ρ1 => wM (ms ρ1) (fun ds ρ2 => Q (d :: ds) ρ2) X) X := by
  simp only [mCons, wM_bind, wM_pure]
theorem wM_consO {m : M O} {ms : M (List O)} {Q : List O → Env → Prop} : wM (mConsO m ms ρ) Q X = wM (m ρ) (fun d ρ1 => wM (ms ρ1) (fun ds ρ2 => Q (d :: ds) ρ2) X) X := by
  simp only [mConsO, wM_bind, wM_pure]
theorem wM_consB {pt : Bool} {m : M (Option Nat × O)} {ms : M (List (Option Nat × O))} {Q : List (Option Nat × O) → Env → Prop} : wM (mConsB pt m ms ρ) Q X = wM (m ρ) (fun d ρ1 => (pt || isSh d.2) = true ∧ wM (ms ρ1) (fun ds ρ2 => Q (d :: ds) ρ2) X) X := by
  simp only [mConsB, wM_bind, wM_iteB, wM_pure]
theorem wM_consT {m : M (Option Nat × O)} {ms : M (List (Option Nat × O))} {Q : List (Option Nat × O) → Env → Prop} : wM (mConsB true m ms ρ) Q X = wM (m ρ) (fun d ρ1 => wM (ms ρ1) (fun ds ρ2 => Q (d :: ds) ρ2) X) X := by
  simp only [wM_consB, Bool.true_or, true_and]
theorem wM_tup {ms : M (List D)} {Q : D → Env → Prop} : wM (mTup ms ρ) Q X = wM (ms ρ) (fun ds ρ1 => ds.length ≤ lim ∧ Q (.tup ds) ρ1) X := by
  simp only [mTup, wM_bind, wM_iteB, wM_pure]
theorem wM_lst {ms : M (List D)} {Q : O → Env → Prop} : wM (mLst ms ρ) Q X = wM (ms ρ) (fun ds ρ1 => ds.length ≤ lim ∧ Q (.lst ds) ρ1) X := by
  simp only [mLst, wM_bind, wM_iteB, wM_pure]
theorem wM_opS {f : D → D → Option O} {ma : M O} {mb : M (Option Nat × O)} {Q : O → Env → Prop} : wM (mOpS f ma mb ρ) Q X = wM (ma ρ) (fun x ρ1 => wM (mb ρ1) (fun y ρ2 => wO (f x.toD y.2.toD) fun o => Q o ρ2) X) X := by
  simp only [mOpS, wM_bind]
  congr
  funext x ρ1
  congr
  funext y ρ2
  cases f x.toD y.2.toD <;> rfl
theorem wM_opN {f : D → D → Option O} {mb : M (Option Nat × O)} {Q : O → Env → Prop} : wM (mOpN i f mb ρ) Q X = wO (ρ[i]?).join fun _ => wM (mb ρ) (fun y ρ2 => wO (ρ2[i]?).join fun o => wO (f o.toD y.2.toD) fun u => Q u ρ2) X := by
  unfold mOpN
  cases ρ[i]? with
  | none => rfl
  | some o =>
    cases o with
    | none => rfl
    | some o =>
      simp only [wM_bind, Option.join_some, wO_some]
      congr
      funext y ρ2
      cases ρ2[i]? with
      | none => rfl
      | some o =>
        cases o with
        | none => rfl
        | some o =>
          simp only [Option.join_some, wO_some]
          cases f o.toD y.2.toD <;> rfl
def blO : O → Option Bool
  | .fd (.sh (.bl b)) => some b
  | _ => none
theorem wM_bl {m : M O} {Q : Bool → Env → Prop} : wM (mBl m ρ) Q X = wM (m ρ) (fun o ρ1 => wO (blO o) fun b => Q b ρ1) X := by
  simp only [mBl, wM_bind]
  congr
  funext o ρ1
  cases o with
  | fd f => cases f with
    | sh d => cases d <;> rfl
    | ct c => rfl
  | rc h fs => rfl
theorem wM_andT {m n : M Bool} {Q : Bool → Env → Prop} : wM (mAndT m n ρ) Q X = wM (m ρ) (fun b ρ1 => if b = true then wM (n ρ1) Q X else Q false ρ1) X := by
  simp only [mAndT, wM_bind, wM_iteM, wM_pure]
theorem wM_orT {m n : M Bool} {Q : Bool → Env → Prop} : wM (mOrT m n ρ) Q X = wM (m ρ) (fun b ρ1 => if b = true then Q true ρ1 else wM (n ρ1) Q X) X := by
  simp only [mOrT, wM_bind, wM_iteM, wM_pure]
theorem wM_if {α : Type} {t : M Bool} {m n : M α} {Q : α → Env → Prop} : wM (mIf t m n ρ) Q X = wM (t ρ) (fun b ρ1 => if b = true then wM (m ρ1) Q X else wM (n ρ1) Q X) X := by
  simp only [mIf, wM_bind, wM_iteM]
def blD : D → Option Bool
  | .bl b => some b
  | _ => none
theorem wM_andV {m n : M D} {Q : D → Env → Prop} : wM (mAndV m n ρ) Q X = wM (m ρ) (fun d ρ1 => wO (blD d) fun b => if b = true then wM (n ρ1) Q X else Q (.bl false) ρ1) X := by
  simp only [mAndV, wM_bind]
  congr
  funext d ρ1
  cases d with
  | bl b => simp only [wM_iteM, wM_pure, blD, wO_some]
  | _ => rfl
theorem wM_orV {m n : M D} {Q : D → Env → Prop} : wM (mOrV m n ρ) Q X = wM (m ρ) (fun d ρ1 => wO (blD d) fun b => if b = true then Q (.bl true) ρ1 else wM (n ρ1) Q X) X := by
  simp only [mOrV, wM_bind]
  congr
  funext d ρ1
  cases d with
  | bl b => simp only [wM_iteM, wM_pure, blD, wO_some]
  | _ => rfl
theorem wM_tru {m : M (Option Nat × O)} {Q : Bool → Env → Prop} : wM (mTru m ρ) Q X = wM (m ρ) (fun x ρ1 => wO (truD x.2.toD) fun b => Q b ρ1) X := by
  simp only [mTru, wM_bind]
  congr
  funext x ρ1
  cases truD x.2.toD <;> rfl
def intO : D → Option Int
  | .int i => some i
  | _ => none
theorem wM_neg {m : M D} {Q : D → Env → Prop} : wM (mNeg m ρ) Q X = wM (m ρ) (fun d ρ1 => wO (intO d) fun j => Q (.int (-j)) ρ1) X := by
  simp only [mNeg, wM_bind]
  congr
  funext d ρ1
  cases d <;> rfl
theorem wM_part {m : M D} {Q : Option Int → Env → Prop} : wM (mPart m ρ) Q X = wM (m ρ) (fun d ρ1 => wO (intO d) fun j => Q (some j) ρ1) X := by
  simp only [mPart, wM_bind]
  congr
  funext d ρ1
  cases d <;> rfl
theorem wM_slice {pl ph : Bool} {ma : M (Option Nat × O)} {ml mh : M (Option Int)} {Q : O → Env → Prop} : wM (mSlice pl ph ma ml mh ρ) Q X = wM (ma ρ) (fun x ρ1 => ((pl && ph) || isSh x.2) = true ∧ wM (ml ρ1) (fun lo ρ2 => wM (mh ρ2) (fun hi ρ3 => wO (sliceD x.2.toD lo hi) fun o => Q o ρ3) X) X) X := by
  simp only [mSlice, wM_bind, wM_iteB]
  congr
  funext x ρ1
  congr
  funext lo ρ2
  congr
  funext hi ρ3
  cases sliceD x.2.toD lo hi <;> rfl
theorem wM_call {f : List D → Option O} {ms : M (List (Option Nat × O))} {Q : O → Env → Prop} : wM (mCall f ms ρ) Q X = wM (ms ρ) (fun rs ρ1 => wO (f (rs.map fun x => x.2.toD)) fun o => Q o ρ1) X := by
  simp only [mCall, wM_bind]
  congr
  funext rs ρ1
  cases f (rs.map fun x => x.2.toD) <;> rfl
theorem wM_isi {Ts : List String} {m : M (Option Nat × O)} {Q : D → Env → Prop} : wM (mIsi Ts m ρ) Q X = wM (m ρ) (fun x ρ1 => wO (isiD Ts x.2.toD) fun b => Q (.bl b) ρ1) X := by
  simp only [mIsi, wM_bind]
  congr
  funext x ρ1
  cases isiD Ts x.2.toD <;> rfl
theorem wM_op1 {f : D → Option O} {m : M (Option Nat × O)} {Q : O → Env → Prop} : wM (mOp1 f m ρ) Q X = wM (m ρ) (fun x ρ1 => wO (f x.2.toD) fun o => Q o ρ1) X := by
  simp only [mOp1, wM_bind]
  congr
  funext x ρ1
  cases f x.2.toD <;> rfl
theorem wM_bO {o : Option O} {Q : Bool → Env → Prop} : wM (bO o ρ) Q X = wO (o.bind blO) fun b => Q b ρ := by
  cases o with
  | none => rfl
  | some o =>
    cases o with
    | fd f => cases f with
      | sh d => cases d <;> rfl
      | ct c => rfl
    | rc h fs => rfl
theorem wM_chain {f f' : D → D → Option O} {ma mb mc : M D} {Q : Bool → Env → Prop} : wM (mChain f f' ma mb mc ρ) Q X = wM (ma ρ) (fun x ρ1 => wM (mb ρ1) (fun y ρ2 => wO ((f x y).bind blO) fun k => if k = true then wM (mc ρ2) (fun z ρ3 => wO ((f' y z).bind blO) fun b => Q b ρ3) X else Q false ρ2) X) X := by
  simp only [mChain, wM_bind, wM_bO, wM_iteM, wM_pure]
theorem wM_sub {pb : Bool} {ma : M (Option Nat × O)} {mb : M D} {Q : Option Nat × O → Env → Prop} : wM (mSub pb ma mb ρ) Q X = wM (ma ρ) (fun x ρ1 => (pb || isSh x.2) = true ∧ wM (mb ρ1) (fun k ρ2 => wO (itemOf x k) fun y => Q y ρ2) X) X := by
  simp only [mSub, wM_bind, wM_iteB]
  congr
  funext x ρ1
  congr
  funext k ρ2
  cases itemOf x k <;> rfl
theorem wM_subN {mb : M D} {Q : Option Nat × O → Env → Prop} : wM (mSubN i mb ρ) Q X = wO (ρ[i]?).join fun _ => wM (mb ρ) (fun k ρ2 => wO (ρ2[i]?).join fun o => wO (itemOf (some i, o) k) fun y => Q y ρ2) X := by
  unfold mSubN
  cases ρ[i]? with
  | none => rfl
  | some o =>
    cases o with
    | none => rfl
    | some o =>
      simp only [wM_bind, Option.join_some, wO_some]
      congr
      funext k ρ2
      cases ρ2[i]? with
      | none => rfl
      | some o =>
        cases o with
        | none => rfl
        | some o =>
          simp only [Option.join_some, wO_some]
          cases itemOf (some i, o) k <;> rfl
theorem wM_has {ms : M (List O)} {Q : List O → Env → Prop} : wM (mHas i ms ρ) Q X = wO (ρ[i]?).join fun _ => wM (ms ρ) Q X := by
  unfold mHas
  cases ρ[i]? with
  | none => rfl
  | some o => cases o <;> rfl
theorem wM_callF {sem : Sem} {as : List (Option Nat)} {ms : M (List O)} {Q : O → Env → Prop} : wM (mCallF sem as ms ρ) Q X = wM (ms ρ) (fun rs ρ1 => wO (fill as rs ρ1) fun os => wM (sem os) (fun r fs => Q r (putBack ρ1 as fs ρ1)) nX) X := by
  simp only [mCallF, wM_bind]
  congr
  funext rs ρ1
  cases fill as rs ρ1 with
  | none => rfl
  | some os =>
    simp only [wO_some]
    cases sem os <;> rfl
/-- what __init__ leaves -/
def madeQ (as : List (Option Nat)) (ρ : Env) (Q : O → Env → Prop) : O → Env → Prop
  | .fd (.sh .non), some o :: fs => Q o (putBack ρ as fs ρ)
  | _, _ => False
def madeX (as : List (Option Nat)) (ρ : Env) (X : D → Env → Prop) : D → Env → Prop
  | e, _ :: fs => X e (putBack ρ as fs ρ)
  | _, _ => False
theorem wM_make {c : Str} {sem : Sem} {as : List (Option Nat)} {ms : M (List O)} {Q : O → Env → Prop} : wM (mMakeX c sem as ms ρ) Q X = wM (ms ρ) (fun rs ρ1 => wO (fill as rs ρ1) fun os => wM (sem (.rc (.ob c []) [] :: os)) (madeQ as ρ1 Q) (madeX as ρ1 X)) X := by
  simp only [mMakeX, wM_bind]
  congr
  funext rs ρ1
  cases fill as rs ρ1 with
  | none => rfl
  | some os =>
    simp only [wO_some]
    cases sem (.rc (.ob c []) [] :: os) with
    | bad => rfl
    | exc e fs => cases fs <;> rfl
    | ok r fs =>
      cases r with
      | rc h gs => cases fs with
        | nil => rfl
        | cons f fs => cases f <;> rfl
      | fd f =>
        cases f with
        | ct c => cases fs with
          | nil => rfl
          | cons f fs => cases f <;> rfl
        | sh d =>
          cases fs with
          | nil => cases d <;> rfl
          | cons f fs => cases d <;> cases f <;> rfl
theorem wM_newK {Q : O → Env → Prop} : wM (mNewK ρ) Q X = Q (.fd (.ct (.dk [] []))) ρ := (rfl)
theorem wM_newT {Q : O → Env → Prop} : wM (mNewT ρ) Q X = Q (.fd (.ct (.dt [] []))) ρ := (rfl)
theorem wM_get1 {mk : M D} {Q : D → Env → Prop} : wM (mGet1 i mk ρ) Q X = wO (ρ[i]?).join fun o => isDk o = true ∧ wM (mk ρ) (fun k ρ1 => wO (ρ1[i]?).join fun o1 => wO (dgetO o1 k) fun r => Q (r.getD .non) ρ1) X := by
  unfold mGet1
  cases ρ[i]? with
  | none => rfl
  | some o =>
    cases o with
    | none => rfl
    | some o =>
      simp only [Option.join_some, wO_some]
      by_cases h : isDk o = true
      · rw [if_pos h, wM_bind]
        simp only [h, true_and]
        congr
        funext k ρ1
        cases ρ1[i]? with
        | none => rfl
        | some o =>
          cases o with
          | none => rfl
          | some o =>
            simp only [Option.join_some, wO_some]
            cases dgetO o k <;> rfl
      · rw [if_neg h]
        simp [h, wM]
theorem wM_get2 {mk md : M D} {Q : D → Env → Prop} : wM (mGet2 i mk md ρ) Q X = wO (ρ[i]?).join fun o => isDk o = true ∧ wM (mk ρ) (fun k ρ1 => wM (md ρ1) (fun d ρ2 => wO (ρ2[i]?).join fun o1 => wO (dgetO o1 k) fun r => Q (r.getD d) ρ2) X) X := by
  unfold mGet2
  cases ρ[i]? with
  | none => rfl
  | some o =>
    cases o with
    | none => rfl
    | some o =>
      simp only [Option.join_some, wO_some]
      by_cases h : isDk o = true
      · rw [if_pos h, wM_bind]
        simp only [h, true_and, wM_bind]
        congr
        funext k ρ1
        congr
        funext d ρ2
        cases ρ2[i]? with
        | none => rfl
        | some o =>
          cases o with
          | none => rfl
          | some o =>
            simp only [Option.join_some, wO_some]
            cases dgetO o k <;> rfl
      · rw [if_neg h]
        simp [h, wM]
/-- a field, as it is looked at -/
def fieldO (tbl : Str → Str → Bool) (f : Str) : Option Nat × O → Option (Option Nat × O)
  | (_, .fd (.sh (.ob c ns vs))) => if tbl c f = true then (lookD ns vs f).map fun d => (none, .sh d) else none
  | (z, .rc (.ob c ns) fs) => if tbl c f = true then match lookD ns fs f with
    | some (.sh d) => some (none, .sh d)
    | some (.ct k) => some (z, .fd (.ct k))
    | none => none
    else none
  | _ => none
theorem wM_field {tbl : Str → Str → Bool} {f : Str} {x : Option Nat × O} {Q : Option Nat × O → Env → Prop} : wM (fieldOf tbl f x ρ) Q X = wO (fieldO tbl f x) fun y => Q y ρ := by
  obtain ⟨z, o⟩ := x
  cases o with
  | fd g =>
    cases g with
    | ct c => rfl
    | sh d =>
      cases d with
      | ob c ns vs =>
        simp only [fieldOf, fieldO]
        split
        · cases lookD ns vs f <;> rfl
        · rfl
      | _ => rfl
  | rc h fs =>
    cases h with
    | dk ks => rfl
    | ob c ns =>
      simp only [fieldOf, fieldO]
      split
      · cases lookD ns fs f with
        | none => rfl
        | some q => cases q <;> rfl
      · rfl
/-- rows that are walked -/
def seqO : D → Option (List D)
  | .lst xs => some xs
  | .fz xs => some xs
  | .tup xs => some xs
  | _ => none
theorem wM_seq {d : D} {Q : List D → Env → Prop} : wM (seqD d ρ) Q X = wO (seqO d) fun ds => Q ds ρ := by cases d <;> rfl
theorem wM_enumL {xs : List D} {Q : List D → Env → Prop} : wM (enumA [.lst xs] ρ) Q X = Q (enumD 0 xs) ρ := (rfl)
theorem wM_enumT {xs : List D} {Q : List D → Env → Prop} : wM (enumA [.tup xs] ρ) Q X = Q (enumD 0 xs) ρ := (rfl)
theorem wM_zipL {xs ys : List D} {Q : List D → Env → Prop} : wM (zipM [.lst xs, .lst ys] ρ) Q X = Q (zipD xs ys) ρ := (rfl)
theorem wM_zipT {xs ys : List D} {Q : List D → Env → Prop} : wM (zipM [.tup xs, .tup ys] ρ) Q X = Q (zipD xs ys) ρ := (rfl)

variable {m n : MS}
theorem wS_bind {α : Type} {m : M α} {k : α → MS} : wS (sBind m k ρ) K = wM (m ρ) (fun a ρ' => wS (k a ρ') K) K.x := by
  unfold sBind
  cases m ρ <;> rfl
theorem wS_seq : wS (sSeq m n ρ) K = wS (m ρ) ⟨fun ρ' => wS (n ρ') K, K.r, K.b, K.c, K.x⟩ := by
  unfold sSeq
  cases m ρ <;> rfl
theorem wS_next : wS (sNext ρ) K = K.n ρ := (rfl)
theorem wS_brk : wS (sBrk ρ) K = K.b ρ := (rfl)
theorem wS_cont : wS (sCont ρ) K = K.c ρ := (rfl)
theorem wS_bad : wS (sBad ρ) K = False := (rfl)
theorem wS_if {t : M Bool} : wS (sIf t m n ρ) K = wM (t ρ) (fun b ρ1 => if b = true then wS (m ρ1) K else wS (n ρ1) K) K.x := by
  unfold sIf
  rw [wS_bind]
  congr
  funext b ρ1
  cases b <;> rfl
theorem wS_ret {m : M O} : wS (sRet m ρ) K = wM (m ρ) K.r K.x := by unfold sRet; rw [wS_bind]; rfl
theorem wS_retN : wS (sRetN ρ) K = K.r (.sh .non) ρ := (rfl)
theorem wS_expr {m : M O} : wS (sExpr m ρ) K = wM (m ρ) (fun _ ρ1 => K.n ρ1) K.x := by unfold sExpr; rw [wS_bind]; rfl
theorem wS_asg {m : M O} : wS (sAsg i m ρ) K = wM (m ρ) (fun r ρ1 => K.n (ρ1.set i (some r))) K.x := by unfold sAsg; rw [wS_bind]; rfl
theorem wS_tg {b : Bn} {m : M D} : wS (sTg b m ρ) K = wM (m ρ) (fun d ρ1 => wO (b d ρ1) K.n) K.x := by
  unfold sTg
  rw [wS_bind]
  congr
  funext d ρ1
  cases b d ρ1 <;> rfl
def twoO {α : Type} : List α → Option (α × α)
  | [a, b] => some (a, b)
  | _ => none
theorem wS_par {j : Nat} {ms : M (List O)} : wS (sPar i j ms ρ) K = wM (ms ρ) (fun rs ρ1 => wO (twoO rs) fun p => K.n ((ρ1.set j (some p.2)).set i (some p.1))) K.x := by
  unfold sPar
  rw [wS_bind]
  congr
  funext rs ρ1
  match rs with
  | [] => rfl
  | [a] => rfl
  | [a, b] => rfl
  | a :: b :: c :: r => rfl
def ownL : O → Option (List D)
  | .fd (.ct (.lst ds)) => some ds
  | _ => none
theorem wS_app {m : M D} : wS (sApp i m ρ) K = wO (ρ[i]?).join fun o => wO (ownL o) fun _ => wM (m ρ) (fun d ρ1 => wO (ρ1[i]?).join fun o1 => wO (ownL o1) fun ds => ds.length < lim ∧ K.n (ρ1.set i (some (.lst (ds ++ [d]))))) K.x := by
  have key : ∀ (d : D) (ρ1 : Env), wS (match ρ1[i]? with
    | some (some (.fd (.ct (.lst ds)))) => if ds.length < lim then .next (ρ1.set i (some (.lst (ds ++ [d])))) else .bad
    | _ => .bad : OutS) K = wO (ρ1[i]?).join fun o1 => wO (ownL o1) fun ds => ds.length < lim ∧ K.n (ρ1.set i (some (.lst (ds ++ [d])))) := fun d ρ1 => by
    cases ρ1[i]? with
    | none => rfl
    | some o =>
      cases o with
      | none => rfl
      | some o =>
        cases o with
        | rc h fs => rfl
        | fd f =>
          cases f with
          | sh d => rfl
          | ct c =>
            cases c with
            | lst ds =>
              simp only [Option.join_some, wO_some, ownL]
              by_cases h : ds.length < lim <;> simp [h, wS]
            | dk ks vs => rfl
            | dt ks vs => rfl
  unfold sApp
  cases ρ[i]? with
  | none => rfl
  | some o =>
    cases o with
    | none => rfl
    | some o =>
      cases o with
      | rc h fs => rfl
      | fd f =>
        cases f with
        | sh d => rfl
        | ct c =>
          cases c with
          | lst ds =>
            simp only [Option.join_some, wO_some, ownL, wS_bind]
            congr
            funext d ρ1
            exact key d ρ1
          | dk ks vs => rfl
          | dt ks vs => rfl
theorem wS_put {mk mv : M D} : wS (sPut i mk mv ρ) K = wM (mv ρ) (fun d ρ1 => wO (ρ1[i]?).join fun _ => wM (mk ρ1) (fun k ρ2 => wO (ρ2[i]?).join fun o => wO (putO o k d) fun o' => K.n (ρ2.set i (some o'))) K.x) K.x := by
  unfold sPut
  rw [wS_bind]
  congr
  funext d ρ1
  cases ρ1[i]? with
  | none => rfl
  | some o =>
    cases o with
    | none => rfl
    | some o =>
      simp only [Option.join_some, wO_some, wS_bind]
      congr
      funext k ρ2
      cases ρ2[i]? with
      | none => rfl
      | some o =>
        cases o with
        | none => rfl
        | some o =>
          simp only [Option.join_some, wO_some]
          cases putO o k d <;> rfl
/-- a record with a field more -/
def fldSet (tbl : Str → Str → Bool) (f : Str) (r : O) : O → Option O
  | .rc (.ob c ns) gs => if tbl c f = true ∧ ns.length < 1000 then some (.rc (.ob c (putN f ns)) (putG f (toFd r) ns gs)) else none
  | _ => none
theorem wS_fldX {tbl : Str → Str → Bool} {f : Str} {m : M O} : wS (sFldX tbl i f m ρ) K = wM (m ρ) (fun r ρ1 => wO (ρ1[i]?).join fun o => wO (fldSet tbl f r o) fun o' => K.n (ρ1.set i (some o'))) K.x := by
  unfold sFldX
  rw [wS_bind]
  congr
  funext r ρ1
  cases ρ1[i]? with
  | none => rfl
  | some o =>
    cases o with
    | none => rfl
    | some o =>
      cases o with
      | fd f => rfl
      | rc h gs =>
        cases h with
        | dk ks => rfl
        | ob c ns =>
          simp only [Option.join_some, wO_some, fldSet, wO_ite]
          by_cases h : tbl c f = true ∧ ns.length < 1000
          · rw [if_pos h]; simp [h, wS]
          · rw [if_neg h]; simp [h, wS]
end
end DL

end

section
set_option Elab.async false
set_option linter.all false
set_option maxRecDepth 100000
namespace DL
open PySem L2 RZ PyProof.Rows

section
variable {ρ : Env} {X : D → Env → Prop} {K : Ks} {i : Nat}
/-- a def by its body -/
theorem sem_w {N n : Nat} {mu : List Nat} {m : MS} {os : List O} {Q : O → Env → Prop} (ρ0 : Env) (hl : os.length = n) (e : os.map some ++ List.replicate (N - n) none = ρ0)
    (h : wS (m ρ0) ⟨fun ρ => Q (.sh .non) (keepE mu n ρ), fun r ρ => Q r (keepE mu n ρ), fun _ => False, fun _ => False, nX⟩) : wM (semOf N n mu m os) Q X := by
  unfold semOf
  rw [if_pos hl, e]
  cases q : m ρ0 with
  | bad => rw [q] at h; exact h
  | next ρ => rw [q] at h; exact h
  | ret r ρ => rw [q] at h; exact h
  | brk ρ => rw [q] at h; exact h.elim
  | cont ρ => rw [q] at h; exact h.elim
  | exc x ρ => rw [q] at h; exact h.elim
theorem wO_bName0 {d : D} {x : Option O} {q : Env → Prop} : wO (bName 0 d (x :: ρ)) q = q (some (.sh d) :: ρ) := by
  simp [bName, wO]
theorem wO_bNameS {d : D} {x : Option O} {q : Env → Prop} : wO (bName (i + 1) d (x :: ρ)) q = wO (bName i d ρ) fun ρ' => q (x :: ρ') := by
  unfold bName
  simp only [List.length_cons, Nat.add_lt_add_iff_right, List.set_cons_succ, wO_ite]
theorem wO_bTup {bs : List Bn} {ds : List D} {q : Env → Prop} : wO (bTup bs (.tup ds) ρ) q = wO (bSeq bs ds ρ) q := (rfl)
theorem wO_bNil {q : Env → Prop} : wO (bSeq [] [] ρ) q = q ρ := (rfl)
theorem wO_bCons {b : Bn} {bs : List Bn} {d : D} {ds : List D} {q : Env → Prop} : wO (bSeq (b :: bs) (d :: ds) ρ) q = wO (b d ρ) fun ρ' => wO (bSeq bs ds ρ') q := by
  simp only [bSeq]
  cases b d ρ <;> rfl
theorem wO_fillN {q : List O → Prop} : wO (fill [] [] ρ) q = q [] := (rfl)
theorem wO_fillS {as : List (Option Nat)} {rs : List O} {q : List O → Prop} : wO (fill (some i :: as) rs ρ) q = wO (ρ[i]?).join fun o => wO (fill as rs ρ) fun os => q (o :: os) := by
  have e : fill (some i :: as) rs ρ = match ρ[i]? with
    | some (some o) => match fill as rs ρ with
      | some os => some (o :: os)
      | none => none
    | _ => none := by rw [fill] <;> rfl
  rw [e]
  generalize fill as rs ρ = f
  cases ρ[i]? with
  | none => rfl
  | some o =>
    cases o with
    | none => rfl
    | some o => cases f <;> rfl
theorem wO_fillP {as : List (Option Nat)} {r : O} {rs : List O} {q : List O → Prop} : wO (fill (none :: as) (r :: rs) ρ) q = wO (fill as rs ρ) fun os => q (r :: os) := by
  have e : fill (none :: as) (r :: rs) ρ = match fill as rs ρ with
    | some os => some (r :: os)
    | none => none := by rw [fill] <;> rfl
  rw [e]
  generalize fill as rs ρ = f
  cases f <;> rfl
theorem putBack_none {ρ0 fs : Env} {as : List (Option Nat)} {f : Option O} : putBack ρ0 (none :: as) (f :: fs) ρ = putBack ρ0 as fs ρ := (rfl)
theorem putBack_nil {ρ0 fs : Env} : putBack ρ0 [] fs ρ = ρ := (rfl)
theorem slotSh_rc {h : Hd} {fs : List Fd} : slotSh (some (.rc h fs) :: ρ) 0 = false := (rfl)
theorem wipe_nil : wipeE ρ [] = ρ := (rfl)
theorem wipe_cons {v : Nat} {vs : List Nat} : wipeE ρ (v :: vs) = (wipeE ρ vs).set v none := (rfl)
def restO (ρ : Env) (v : Nat) : Option O := match ρ[v]? with
  | some (some (.fd (.sh d))) => some (.fd (.sh d))
  | _ => none
theorem back_nil {ρ' : Env} : backE ρ' ρ [] = ρ := (rfl)
theorem back_cons {ρ' : Env} {v : Nat} {vs : List Nat} : backE ρ' ρ (v :: vs) = (backE ρ' ρ vs).set v (restO ρ' v) := (rfl)
theorem rest_s {x : Option O} : restO (x :: ρ) (i + 1) = restO ρ i := (rfl)
theorem rest_n : restO (none :: ρ) 0 = none := (rfl)
theorem rest_sh {d : D} : restO (some (.fd (.sh d)) :: ρ) 0 = some (.sh d) := (rfl)
theorem rest_ct {c : Ct} : restO (some (.fd (.ct c)) :: ρ) 0 = none := (rfl)
theorem rest_rc {h : Hd} {fs : List Fd} : restO (some (.rc h fs) :: ρ) 0 = none := (rfl)

theorem add_ii {i j : Int} : addD (.int i) (.int j) = some (.sh (.int (i + j))) := (rfl)
theorem add_ll {xs ys : List D} : addD (.lst xs) (.lst ys) = if xs.length + ys.length ≤ lim then some (.lst (xs ++ ys)) else none := (rfl)
theorem add_tt {xs ys : List D} : addD (.tup xs) (.tup ys) = if xs.length + ys.length ≤ lim then some (.sh (.tup (xs ++ ys))) else none := (rfl)
theorem sub_ii {i j : Int} : liftI subI (.int i) (.int j) = some (.sh (.int (i - j))) := (rfl)
theorem mul_ii {i j : Int} : liftI mulI (.int i) (.int j) = if i.natAbs < P512 ∧ j.natAbs < P512 then some (.sh (.int (i * j))) else none := by
  by_cases h : i.natAbs < P512 ∧ j.natAbs < P512
  · rw [if_pos h]; unfold liftI mulI; simp only [if_pos h]
  · rw [if_neg h]; unfold liftI mulI; simp only [if_neg h]
theorem div_ii {i j : Int} : liftI divI (.int i) (.int j) = if 0 < j ∧ j.natAbs < P512 then some (.sh (.int (i / j))) else none := by
  by_cases h : 0 < j ∧ j.natAbs < P512
  · rw [if_pos h]; unfold liftI divI; simp only [if_pos h]
  · rw [if_neg h]; unfold liftI divI; simp only [if_neg h]
theorem mod_ii {i j : Int} : liftI modI (.int i) (.int j) = if 0 < j then some (.sh (.int (i % j))) else none := by
  by_cases h : 0 < j
  · rw [if_pos h]; unfold liftI modI; simp only [if_pos h]
  · rw [if_neg h]; unfold liftI modI; simp only [if_neg h]
theorem cmp_ii {f : Int → Int → Bool} {i j : Int} : liftB f (.int i) (.int j) = some (.sh (.bl (f i j))) := (rfl)
theorem eq_ii {i j : Int} : eqO (.int i) (.int j) = some (.sh (.bl (i == j))) := (rfl)
theorem ne_ii {i j : Int} : neO (.int i) (.int j) = some (.sh (.bl (!(i == j)))) := (rfl)
theorem is_nn : isO .non .non = some (.sh (.bl true)) := (rfl)
theorem is_tn {xs : List D} : isO (.tup xs) .non = some (.sh (.bl false)) := (rfl)
theorem is_ln {xs : List D} : isO (.lst xs) .non = some (.sh (.bl false)) := (rfl)
theorem is_in {j : Int} : isO (.int j) .non = some (.sh (.bl false)) := (rfl)
theorem is_bn {b : Bool} : isO (.bl b) .non = some (.sh (.bl false)) := (rfl)
theorem is_bb {a b : Bool} : isO (.bl a) (.bl b) = some (.sh (.bl (decide (a = b)))) := (rfl)
theorem isn_nn : isnO .non .non = some (.sh (.bl false)) := (rfl)
theorem isn_tn {xs : List D} : isnO (.tup xs) .non = some (.sh (.bl true)) := (rfl)
theorem isn_ln {xs : List D} : isnO (.lst xs) .non = some (.sh (.bl true)) := (rfl)
theorem isn_in {j : Int} : isnO (.int j) .non = some (.sh (.bl true)) := (rfl)
theorem len_l {xs : List D} : lenD (.lst xs) = some (.sh (.int xs.length)) := (rfl)
theorem len_t {xs : List D} : lenD (.tup xs) = some (.sh (.int xs.length)) := (rfl)
theorem int_i {j : Int} : DL.intD (.int j) = some (.sh (.int j)) := (rfl)
theorem int_b {b : Bool} : DL.intD (.bl b) = some (.sh (.int (if b = true then 1 else 0))) := (rfl)
theorem abs_i {j : Int} : absD (.int j) = some (.sh (.int (if j < 0 then -j else j))) := (rfl)
theorem tup_l {xs : List D} : tupleD (.lst xs) = some (.sh (.tup xs)) := (rfl)
theorem tup_t {xs : List D} : tupleD (.tup xs) = some (.sh (.tup xs)) := (rfl)
theorem list_l {xs : List D} : listD (.lst xs) = some (.lst xs) := (rfl)
theorem list_t {xs : List D} : listD (.tup xs) = some (.lst xs) := (rfl)
theorem f1_ap {f : D → Option O} {d : D} : f1 f [d] = f d := (rfl)
theorem f2_ap {f : D → D → Option O} {d e : D} : f2 f [d, e] = f d e := (rfl)
theorem tru_b {b : Bool} : truD (.bl b) = some b := (rfl)
theorem tru_t {xs : List D} : truD (.tup xs) = some (!xs.isEmpty) := (rfl)
theorem tru_l {xs : List D} : truD (.lst xs) = some (!xs.isEmpty) := (rfl)
theorem tru_n : truD .non = some false := (rfl)
theorem item_lstS {z : Option Nat} {xs : List D} {j : Int} : itemOf (z, .fd (.sh (.lst xs))) (.int j) = (atI xs j).map fun d => (none, .sh d) := by
  simp only [itemOf]; cases atI xs j <;> rfl
theorem item_lstO {z : Option Nat} {xs : List D} {j : Int} : itemOf (z, .fd (.ct (.lst xs))) (.int j) = (atI xs j).map fun d => (none, .sh d) := by
  simp only [itemOf]; cases atI xs j <;> rfl
theorem item_tupS {z : Option Nat} {xs : List D} {j : Int} : itemOf (z, .fd (.sh (.tup xs))) (.int j) = (atI xs j).map fun d => (none, .sh d) := by
  simp only [itemOf]; cases atI xs j <;> rfl
theorem wO_map {α β : Type} {o : Option α} {f : α → β} {q : β → Prop} : wO (o.map f) q = wO o fun a => q (f a) := by cases o <;> rfl
theorem wO_bind {α β : Type} {o : Option α} {f : α → Option β} {q : β → Prop} : wO (o.bind f) q = wO o fun a => wO (f a) q := by cases o <;> rfl
theorem isi_int_i {j : Int} : isiD ["int"] (.int j) = some true := (rfl)
theorem isi_int_b {b : Bool} : isiD ["int"] (.bl b) = some true := (rfl)
theorem isi_int_n : isiD ["int"] .non = some false := (rfl)
theorem isi_int_t {xs : List D} : isiD ["int"] (.tup xs) = some false := (rfl)
theorem isi_int_l {xs : List D} : isiD ["int"] (.lst xs) = some false := (rfl)
theorem isi_int_s {x : Str} : isiD ["int"] (.str x) = some false := (rfl)
theorem isi_bool_i {j : Int} : isiD ["bool"] (.int j) = some false := (rfl)
theorem isi_bool_b {b : Bool} : isiD ["bool"] (.bl b) = some true := (rfl)
theorem isi_bool_n : isiD ["bool"] .non = some false := (rfl)
theorem isi_tl_t {xs : List D} : isiD ["tuple", "list"] (.tup xs) = some true := (rfl)
theorem isi_tl_l {xs : List D} : isiD ["tuple", "list"] (.lst xs) = some true := (rfl)
theorem isi_tl_i {j : Int} : isiD ["tuple", "list"] (.int j) = some false := (rfl)
theorem isi_tl_n : isiD ["tuple", "list"] .non = some false := (rfl)
theorem isi_t_t {xs : List D} : isiD ["tuple"] (.tup xs) = some true := (rfl)
theorem isi_t_l {xs : List D} : isiD ["tuple"] (.lst xs) = some false := (rfl)
theorem isi_l_t {xs : List D} : isiD ["list"] (.tup xs) = some false := (rfl)
theorem isi_l_l {xs : List D} : isiD ["list"] (.lst xs) = some true := (rfl)
theorem slice_l {xs : List D} {lo hi : Option Int} : sliceD (.lst xs) lo hi = some (.lst (cutL xs lo hi)) := (rfl)
theorem slice_t {xs : List D} {lo hi : Option Int} : sliceD (.tup xs) lo hi = some (.sh (.tup (cutL xs lo hi))) := (rfl)
theorem toD_ct {c : Ct} : O.toD (.fd (.ct c)) = c.toD := (rfl)
theorem shO_sh {d : D} : shO (.fd (.sh d)) = some d := (rfl)
theorem blO_bl {b : Bool} : blO (.fd (.sh (.bl b))) = some b := (rfl)
theorem blD_bl {b : Bool} : blD (.bl b) = some b := (rfl)
theorem intO_i {j : Int} : intO (.int j) = some j := (rfl)
theorem seq_l {xs : List D} : seqO (.lst xs) = some xs := (rfl)
theorem seq_t {xs : List D} : seqO (.tup xs) = some xs := (rfl)
theorem seq_f {xs : List D} : seqO (.fz xs) = some xs := (rfl)
theorem ownL_l {xs : List D} : ownL (.fd (.ct (.lst xs))) = some xs := (rfl)
theorem two_ap {a b : O} : twoO [a, b] = some (a, b) := (rfl)
theorem isSh_s {d : D} : isSh (.fd (.sh d)) = true := (rfl)
theorem made_ok {as : List (Option Nat)} {Q : O → Env → Prop} {o : O} {fs : Env} : madeQ as ρ Q (.fd (.sh .non)) (some o :: fs) = Q o (putBack ρ as fs ρ) := (rfl)
theorem small512 {j : Int} (h0 : -9223372036854775808 ≤ j) (h : j ≤ 9223372036854775808) : j.natAbs < P512 := Nat.lt_trans (by omega : j.natAbs < 18446744073709551616) p512
end

@[irreducible] def inR (j : Int) : Bool := decide (-2000 ≤ j ∧ j ≤ 2000)
def rngA1 : List D → M (List D)
  | [.int j] => if inR j = true then mPure (rngD 0 j.toNat) else fun _ => .bad
  | _ => fun _ => .bad
def rngA2 : List D → M (List D)
  | [.int i, .int j] => if inR i = true ∧ inR j = true then mPure (rngD i (j - i).toNat) else fun _ => .bad
  | _ => fun _ => .bad
section
variable {X : Cx} {W : WX'} {tg e : Expr} {p : Bool}
end
theorem wM_rngA1 {j : Int} {ρ : DL.Env} {Q : List D → DL.Env → Prop} {X : D → DL.Env → Prop} : wM (rngA1 [.int j] ρ) Q X = (inR j = true ∧ Q (rngD 0 j.toNat) ρ) := by
  unfold rngA1
  simp only [wM_iteB, wM_pure]
theorem wM_rngA2 {j k : Int} {ρ : DL.Env} {Q : List D → DL.Env → Prop} {X : D → DL.Env → Prop} : wM (rngA2 [.int j, .int k] ρ) Q X = ((inR j = true ∧ inR k = true) ∧ Q (rngD j (k - j).toNat) ρ) := by
  unfold rngA2
  simp only [wM_iteB, wM_pure]
theorem len0 {α : Type} : (([] : List α).length ≤ lim) = True := eq_true (by show 0 ≤ 16777216; decide)
theorem len1 {α : Type} {a : α} : ([a].length ≤ lim) = True := eq_true (by show 1 ≤ 16777216; decide)
theorem len2 {α : Type} {a b : α} : ([a, b].length ≤ lim) = True := eq_true (by show 2 ≤ 16777216; decide)
theorem len3 {α : Type} {a b c : α} : ([a, b, c].length ≤ lim) = True := eq_true (by show 3 ≤ 16777216; decide)
theorem len4 {α : Type} {a b c d : α} : ([a, b, c, d].length ≤ lim) = True := eq_true (by show 4 ≤ 16777216; decide)
theorem len5 {α : Type} {a b c d e : α} : ([a, b, c, d, e].length ≤ lim) = True := eq_true (by show 5 ≤ 16777216; decide)
theorem len6 {α : Type} {a b c d e f : α} : ([a, b, c, d, e, f].length ≤ lim) = True := eq_true (by show 6 ≤ 16777216; decide)
theorem abs2 : ((2 : Int).natAbs < P512) = True := eq_true (small512 (by decide) (by decide))
theorem pos2 : ((0 : Int) < 2) = True := eq_true (by decide)
theorem wM_consP {mk mv : M D} {ms : M (List (D × D))} {ρ : DL.Env} {Q : List (D × D) → DL.Env → Prop} {X : D → DL.Env → Prop} : wM (mConsP mk mv ms ρ) Q X = wM (mk ρ) (fun k ρ1 => wM (mv ρ1) (fun v ρ2 => wM (ms ρ2) (fun ds ρ3 => Q ((k, v) :: ds) ρ3) X) X) X := by
  unfold mConsP
  simp only [wM_bind, wM_pure]
theorem wM_disp {m : M (List (D × D))} {ρ : DL.Env} {Q : O → DL.Env → Prop} {X : D → DL.Env → Prop} : wM (mDisp m ρ) Q X = wM (m ρ) (fun ds ρ1 => wO (keysD (ds.map (·.1))) fun ks => (ks.Nodup ∧ ds.length ≤ 15) ∧ Q (.fd (.ct (.dk ks (ds.map (·.2))))) ρ1) X := by
  unfold mDisp
  rw [wM_bind]
  congr
  funext ds ρ1
  cases keysD (ds.map (·.1)) with
  | none => rfl
  | some ks => simp only [wO_some, wM_iteB, wM_pure]
theorem isDk_dk {ks : List Key} {vs : List D} : isDk (.fd (.ct (.dk ks vs))) = true := (rfl)
theorem isDk_dt {ks : List (List Key)} {vs : List D} : isDk (.fd (.ct (.dt ks vs))) = true := (rfl)
end DL

end

section
set_option Elab.async false
set_option linter.all false
set_option maxRecDepth 100000
namespace DL
open PySem L2 RZ PyProof.Rows
/-- the fields of the package's classes -/
def tblR0 : List (Str × Str) := [("Line", "row"), ("Line", "number"), ("Line", "spot"), ("Scope", "modules"), ("Scope", "known"), ("Scope", "stepped"), ("Work", "design"), ("Work", "names"), ("Work", "signals"), ("Work", "later"), ("Work", "waiting"), ("Work", "given"), ("Flat", "design")]
def tblR1 : List (Str × Str) := [("Flat", "laid"), ("Graph", "leaves"), ("Graph", "gates"), ("Builder", "leaves"), ("Builder", "gates"), ("Builder", "places"), ("Machine", "graph"), ("Machine", "inputs"), ("Machine", "resets"), ("Machine", "nexts"), ("Machine", "wish"), ("Unrolled", "graph"), ("Unrolled", "states")]
def tblR2 : List (Str × Str) := [("Unrolled", "wishes"), ("Sight", "row"), ("Sight", "trues"), ("Sight", "places"), ("Sight", "falses"), ("Sight", "goods"), ("Found", "assignment"), ("Barred", "lines"), ("Search", "many"), ("Search", "assumed"), ("Search", "sight"), ("Search", "lines"), ("Search", "trail")]
def tblR3 : List (Str × Str) := [("Broken", "rows"), ("FirstBreak", "rows"), ("FirstBreak", "papers"), ("NoBreak", "papers"), ("KeptBySteps", "base"), ("KeptBySteps", "step"), ("OpenSteps", "state"), ("OpenSteps", "rows"), ("Way", "state"), ("Way", "inputs"), ("Shut", "clause"), ("Kept", "clauses"), ("Kept", "papers")]
def tblR4 : List (Str × Str) := [("Frames", "machine"), ("Frames", "levels"), ("Frames", "stack"), ("Open", "mask"), ("Open", "lines"), ("Fallen", "rows"), ("Before", "outer"), ("Before", "now"), ("Before", "past"), ("Before", "later"), ("Project", "frame"), ("Project", "now"), ("Project", "past")]
def tblR5 : List (Str × Str) := [("Project", "later")]
def tblRows : List (Str × Str) := tblR0 ++ (tblR1 ++ (tblR2 ++ (tblR3 ++ (tblR4 ++ (tblR5)))))
def tbl (c f : Str) : Bool := decide ((c, f) ∈ tblRows)
theorem fields_mkA {κ : Kx} (h : ∀ p ∈ tblRows, (∃ C, κ.mg p.1 = some (.ref C) ∧ Cls κ.K C ∧ NoAttr κ.K C p.2) ∨ κ.mg p.1 = none) : FieldsOk κ tbl := fun c f e C hC => by
  rcases h (c, f) (of_decide_eq_true e) with ⟨C', h1, h2, h3⟩ | h1
  · rw [hC] at h1
    cases h1
    exact ⟨h2, h3⟩
  · rw [hC] at h1
    cases h1
section
variable {Q : O → DL.Env → Prop} {X : D → DL.Env → Prop} {ρ : DL.Env}
def natD (n : Nat) : D := .int (n : Int)
theorem lookK_put {κ α : Type} [DecidableEq κ] {k k' : κ} {d : α} : ∀ {ks : List κ} {vs : List α}, ks.length = vs.length → lookK (putKs ks k) (putVs ks vs k d) k' = if k = k' then some d else lookK ks vs k' := by
  have set : ∀ {ks : List κ} {vs : List α}, ks.length = vs.length → k ∈ ks → lookK ks (setAt ks vs k d) k' = if k = k' then some d else lookK ks vs k' := by
    intro ks
    induction ks with
    | nil => intro vs _ h; simp at h
    | cons n ns ih =>
      intro vs hl hk
      cases vs with
      | nil => simp at hl
      | cons v vs =>
        simp only [setAt, lookK]
        by_cases hn : n = k
        · subst hn
          by_cases h : n = k'
          · simp [h]
          · simp only [if_true, h, if_false]
            by_cases hm : n ∈ ns
            · rw [ih (by simpa using hl) hm, if_neg h]
            · have : ∀ {ns : List κ} {vs : List α}, n ∉ ns → setAt ns vs n d = vs := by
                intro ns
                induction ns with
                | nil => intro vs _; cases vs <;> rfl
                | cons m ms ih =>
                  intro vs hm
                  cases vs with
                  | nil => rfl
                  | cons v vs =>
                    simp only [List.mem_cons, not_or] at hm
                    simp only [setAt]
                    rw [if_neg (Ne.symm hm.1), ih hm.2]
              rw [this hm]
        · have hm : k ∈ ns := by
            rcases List.mem_cons.mp hk with z | z
            · exact absurd z.symm hn
            · exact z
          simp only [hn, if_false]
          by_cases h : n = k'
          · subst h
            rw [if_pos rfl, if_neg (Ne.symm hn), if_pos rfl]
          · rw [if_neg h, if_neg h]
            exact ih (by simpa using hl) hm
  have app : ∀ {ks : List κ} {vs : List α}, ks.length = vs.length → k ∉ ks → lookK (ks ++ [k]) (vs ++ [d]) k' = if k = k' then some d else lookK ks vs k' := by
    intro ks
    induction ks with
    | nil => intro vs hl _; cases vs with
      | nil => rfl
      | cons v vs => simp at hl
    | cons n ns ih =>
      intro vs hl hk
      cases vs with
      | nil => simp at hl
      | cons v vs =>
        simp only [List.mem_cons, not_or] at hk
        simp only [List.cons_append, lookK]
        by_cases h : n = k'
        · subst h
          rw [if_pos rfl, if_neg hk.1, if_pos rfl]
        · rw [if_neg h, if_neg h]
          exact ih (by simpa using hl) hk.2
  intro ks vs hl
  unfold putKs putVs
  by_cases hk : k ∈ ks
  · rw [if_pos hk, if_pos hk]; exact set hl hk
  · rw [if_neg hk, if_neg hk]; exact app hl hk
theorem putVs_len {κ α : Type} [DecidableEq κ] {k : κ} {d : α} {ks : List κ} {vs : List α} (h : ks.length = vs.length) : (putKs ks k).length = (putVs ks vs k d).length := by
  have set : ∀ {ks : List κ} {vs : List α}, (setAt ks vs k d).length = vs.length := by
    intro ks
    induction ks with
    | nil => intro vs; cases vs <;> rfl
    | cons n ns ih =>
      intro vs
      cases vs with
      | nil => rfl
      | cons v vs => simp only [setAt, List.length_cons, ih]
  unfold putKs putVs
  split
  · rw [set]; exact h
  · simp [h]
theorem putKs_mem {κ : Type} [DecidableEq κ] {k j : κ} {ks : List κ} : j ∈ putKs ks k ↔ j ∈ ks ∨ j = k := by
  unfold putKs
  split
  · rename_i h
    constructor
    · exact .inl
    · rintro (z | rfl)
      · exact z
      · exact h
  · simp
theorem pen_w {ns : List Int} (hl : ns.length ≤ 63) (q : ∀ p fs, PenOk 0 p → Q p fs) : wM (sem__law_pen [.sh (.fz (ns.map D.int))]) Q X := by
  obtain ⟨p, fs, e, h⟩ := pen_spec hl
  rw [e]
  exact q p fs h
theorem draw_w {k : Nat} {p : O} {many : Int} (hp : PenOk k p) (h1 : 1 ≤ many) (h2 : many ≤ 1000000) (hk : k ≤ 1073741824) (q : ∀ r p', 0 ≤ r → r < many → PenOk (k + 1) p' → Q (.sh (.int r)) [some p', some (.sh (.int many))]) :
    wM (sem__law_draw [p, .sh (.int many)]) Q X := by
  obtain ⟨r, p', e, h3, h4, h5⟩ := draw_spec hp h1 (small512 (by omega) (by omega)) hk
  rw [e]
  exact q r p' h3 h4 h5
/-- a drawn number as one from 0 -/
theorem drawN_w {k : Nat} {p : O} {many : Nat} (hp : PenOk k p) (h1 : 1 ≤ many) (h2 : many ≤ 1000000) (hk : k ≤ 1073741824) (q : ∀ r p', r < many → PenOk (k + 1) p' → Q (.sh (natD r)) [some p', some (.sh (.int (many : Int)))]) :
    wM (sem__law_draw [p, .sh (.int (many : Int))]) Q X := by
  refine draw_w hp (by omega) (by omega) hk fun r p' h3 h4 h5 => ?_
  have e : r = ((r.toNat : Nat) : Int) := by omega
  rw [e]
  exact q r.toNat p' (by omega) h5
theorem pick_w {k : Nat} {p o : O} {xs : List D} (hp : PenOk k p) (ho : SeqO o xs) (h1 : xs ≠ []) (h2 : xs.length ≤ lim) (hk : k ≤ 1073741824) (q : ∀ d p', d ∈ xs → PenOk (k + 1) p' → Q (.sh d) [some p', some o]) :
    wM (sem__law_pick [p, o]) Q X := by
  obtain ⟨d, p', e, h3, h4⟩ := pick_spec hp ho h1 h2 hk
  rw [e]
  exact q d p' h3 h4
end
end DL

end

section
set_option Elab.async false
set_option linter.all false
set_option maxRecDepth 100000
namespace DL
open PySem L2 RZ PyProof.Rows
section
variable {Q : O → DL.Env → Prop} {X : D → DL.Env → Prop} {ρ : DL.Env}
end
end DL

end

section
set_option Elab.async false
set_option linter.all false
set_option maxRecDepth 100000
namespace DL
open PySem L2 RZ PyProof.Rows
end DL

end

section
set_option Elab.async false
set_option linter.all false
set_option maxRecDepth 100000
namespace DL
open PySem L2 RZ PyProof.Rows
def d_is_count : MS :=
  (sRet (mMap O.sh (mAndV (mIsi ["int"] (mNameB 0)) (mAndV (mMap (fun b => D.bl (!b)) (mTru (mMap (fun d => ((none : Option Nat), O.sh d)) (mIsi ["bool"] (mNameB 0))))) (mMap O.toD (mOpN 0 (liftB fun i j => decide (j ≤ i)) (mMap (fun d => ((none : Option Nat), O.sh d)) (mPure (.int 0)))))))))
def sem_is_count : Sem := semOf 1 1 [0] d_is_count
def d_is_literal : MS :=
  (sRet (mMap O.sh (mAndV (mMap O.toD (mCallF sem_is_count [some 0] (mHas 0 (mPure [])))) (mMap O.toD (mOpN 0 (liftB fun i j => decide (i < j)) (mMap (fun o => ((none : Option Nat), o)) (mOpS (liftI mulI) (mMap O.sh (mPure (.int 2))) (mNameB 1))))))))
def sem_is_literal : Sem := semOf 2 2 [0, 1] d_is_literal
def d_are_gates : MS :=
  (sSeq (sIf (mMap (fun b => !b) (mTru (mMap (fun d => ((none : Option Nat), O.sh d)) (mIsi ["tuple", "list"] (mNameB 1))))) (sRet (mMap O.sh (mPure (.bl false)))) sNext)
  (sSeq (sFor (mBind (mCons (mNameV 1) (mPure [])) enumA) (bTup [(bName 2), (bName 3)])
  (sSeq (sIf (mOrT (mMap (fun b => !b) (mTru (mMap (fun d => ((none : Option Nat), O.sh d)) (mIsi ["tuple", "list"] (mNameB 3))))) (mBl (mOpS neO (mCall (f1 lenD) (mConsB true (mNameB 3) (mPure []))) (mMap (fun d => ((none : Option Nat), O.sh d)) (mPure (.int 2)))))) (sRet (mMap O.sh (mPure (.bl false)))) sNext)
  (sIf (mMap (fun b => !b) (mTru (mMap (fun o => ((none : Option Nat), o)) (mCall (f1 allD) (mConsB true (mMap (fun o => ((none : Option Nat), o)) (mLc [4] (mBind (mNameV 3) seqD) (bName 4) (mPure true) (mMap O.toD (mCallF sem_is_literal [some 4, none] (mHas 4 (mConsO (mOpS addD (mOpS addD (mMap O.sh (mPure (.int 1))) (mNameB 0)) (mNameB 2)) (mPure []))))))) (mPure [])))))) (sRet (mMap O.sh (mPure (.bl false)))) sNext)))
  (sRet (mMap O.sh (mPure (.bl true))))))
def sem_are_gates : Sem := semOf 5 2 [0, 1] d_are_gates
def d_Graph___init__ : MS :=
  (sSeq (sIf (mMap (fun b => !b) (mTru (mMap (fun o => ((none : Option Nat), o)) (mCallF sem_is_count [some 1] (mHas 1 (mPure [])))))) sBad sNext)
  (sSeq (sIf (mMap (fun b => !b) (mTru (mMap (fun o => ((none : Option Nat), o)) (mCallF sem_are_gates [some 1, some 2] (mHas 1 (mHas 2 (mPure []))))))) sBad sNext)
  (sSeq (sFldX tbl 0 "leaves" (mMap O.sh (mNameV 1)))
  (sFldX tbl 0 "gates" (mCall (f1 tupleD) (mConsB true (mMap (fun o => ((none : Option Nat), o)) (mLc [3] (mBind (mNameV 2) seqD) (bName 3) (mPure true) (mMap O.toD (mCall (f1 tupleD) (mConsB true (mNameB 3) (mPure [])))))) (mPure [])))))))
def sem_Graph___init__ : Sem := semOf 4 3 [0, 1, 2] d_Graph___init__
section
variable {Q : O → DL.Env → Prop} {X : D → DL.Env → Prop} {ρ : DL.Env}
/-- the other literal of a node -/
def flp (l : Nat) : Nat := if l % 2 = 0 then l + 1 else l - 1
def gD (g : Nat × Nat) : D := .tup [natD g.1, natD g.2]
/-- gates whose literals stand ahead -/
def GOk (leaves : Nat) (gs : List (Nat × Nat)) : Prop := ∀ pre g post, gs = pre ++ g :: post → g.1 < 2 * (1 + leaves + pre.length) ∧ g.2 < 2 * (1 + leaves + pre.length)
theorem GOk.snoc {leaves : Nat} {gs : List (Nat × Nat)} {g : Nat × Nat} (h : GOk leaves gs) (h1 : g.1 < 2 * (1 + leaves + gs.length)) (h2 : g.2 < 2 * (1 + leaves + gs.length)) : GOk leaves (gs ++ [g]) := fun pre x post e => by
  rcases List.eq_nil_or_concat post with rfl | ⟨p2, y, rfl⟩
  · obtain ⟨rfl, z⟩ := List.append_inj' e rfl
    obtain rfl := (List.cons.inj z).1
    exact ⟨h1, h2⟩
  · have e2 : gs ++ [g] = (pre ++ x :: p2) ++ [y] := by rw [e]; simp
    obtain ⟨rfl, -⟩ := List.append_inj' e2 rfl
    exact h pre x p2 rfl
theorem GOk.pre {leaves : Nat} {gs hs : List (Nat × Nat)} (h : GOk leaves (gs ++ hs)) : GOk leaves gs := fun pre x post e => h pre x (post ++ hs) (by rw [e]; simp)
/-- a graph as an object -/
def gO (leaves : Nat) (gs : List (Nat × Nat)) : O := .rc (.ob "Graph" ["leaves", "gates"]) [.sh (natD leaves), .sh (.tup (gs.map gD))]
/-- the value of a literal -/
def bitL (vs : List Nat) (l : Nat) : Nat := if l % 2 = 0 then vs.getD (l / 2) 0 else 1 - vs.getD (l / 2) 0
def valsG (vs : List Nat) (gs : List (Nat × Nat)) : List Nat := gs.foldl (fun vs g => vs ++ [bitL vs g.1 * bitL vs g.2]) vs
def valsL (gs : List (Nat × Nat)) (bs : List Nat) : List Nat := valsG (0 :: bs) gs
theorem valsG_len {vs : List Nat} {gs : List (Nat × Nat)} : (valsG vs gs).length = vs.length + gs.length := by
  induction gs generalizing vs with
  | nil => rfl
  | cons g gs ih =>
    show (valsG (vs ++ [_]) gs).length = _
    rw [ih]
    simp
    omega
theorem bitL_le {vs : List Nat} (h : ∀ v ∈ vs, v < 2) (l : Nat) : bitL vs l < 2 := by
  unfold bitL
  have hv : vs.getD (l / 2) 0 < 2 := by
    rw [List.getD_eq_getElem?_getD]
    rcases q : vs[l / 2]? with _ | v
    · simp
    · exact h v (List.mem_of_getElem? q)
  split <;> omega
theorem valsG_bit {vs : List Nat} {gs : List (Nat × Nat)} (h : ∀ v ∈ vs, v < 2) : ∀ v ∈ valsG vs gs, v < 2 := by
  induction gs generalizing vs with
  | nil => exact h
  | cons g gs ih =>
    refine ih (vs := vs ++ [_]) fun v hv => ?_
    rcases List.mem_append.mp hv with hv | hv
    · exact h v hv
    · simp at hv
      subst hv
      have h1 := bitL_le h g.1
      have h2 := bitL_le h g.2
      rcases (by omega : bitL vs g.1 = 0 ∨ bitL vs g.1 = 1) with z | z <;> rw [z] <;> omega
theorem valsL_len {bs : List Nat} {gs : List (Nat × Nat)} : (valsL gs bs).length = 1 + bs.length + gs.length := by rw [valsL, valsG_len]; simp; omega
theorem valsL_bit {bs : List Nat} {gs : List (Nat × Nat)} (h : ∀ v ∈ bs, v < 2) : ∀ v ∈ valsL gs bs, v < 2 := valsG_bit fun v hv => by
  rcases List.mem_cons.mp hv with rfl | hv
  · omega
  · exact h v hv
/-- a pen with at most so many draws -/
def PenB (b : Nat) (p : O) : Prop := ∃ k, k ≤ b ∧ PenOk k p
theorem PenB.mono {b c : Nat} {p : O} (h : PenB b p) (hb : b ≤ c) : PenB c p := by
  obtain ⟨k, h1, h2⟩ := h
  exact ⟨k, by omega, h2⟩
theorem PenB.sl {b : Nat} {p : O} (h : PenB b p) {ρ : DL.Env} : slotSh (some p :: ρ) 0 = false := by
  obtain ⟨k, -, ⟨ns, a, d, c, f, rfl, -⟩⟩ := h
  rfl
theorem penB_w {ns : List Int} (hl : ns.length ≤ 63) (q : ∀ p fs, PenB 0 p → Q p fs) : wM (sem__law_pen [.sh (.fz (ns.map D.int))]) Q X := pen_w hl fun p fs h => q p fs ⟨0, by omega, h⟩
theorem drawB_w {b : Nat} {p : O} {many : Nat} (hp : PenB b p) (h1 : 1 ≤ many) (h2 : many ≤ 1000000) (hb : b ≤ 1000000) (q : ∀ r p', r < many → PenB (b + 1) p' → Q (.sh (natD r)) [some p', some (.sh (.int (many : Int)))]) :
    wM (sem__law_draw [p, .sh (.int (many : Int))]) Q X := by
  obtain ⟨k, hk, hp⟩ := hp
  exact drawN_w hp h1 h2 (by omega) fun r p' h h' => q r p' h ⟨k + 1, by omega, h'⟩
theorem pickB_w {b : Nat} {p o : O} {xs : List D} (hp : PenB b p) (ho : SeqO o xs) (h1 : xs ≠ []) (h2 : xs.length ≤ lim) (hb : b ≤ 1000000) (q : ∀ d p', d ∈ xs → PenB (b + 1) p' → Q (.sh d) [some p', some o]) :
    wM (sem__law_pick [p, o]) Q X := by
  obtain ⟨k, hk, hp⟩ := hp
  exact pick_w hp ho h1 h2 (by omega) fun d p' h h' => q d p' h ⟨k + 1, by omega, h'⟩
end
end DL

end

section
set_option Elab.async false
set_option linter.all false
set_option maxRecDepth 100000
namespace DL
open PySem L2 RZ PyProof.Rows
section
variable {Q : O → DL.Env → Prop} {X : D → DL.Env → Prop} {ρ : DL.Env}
def RowD (d : D) (ls : List Nat) : Prop := d = .tup (ls.map natD) ∨ d = .lst (ls.map natD)
def RowI (d : D) (cs : List Int) : Prop := d = .tup (cs.map D.int) ∨ d = .lst (cs.map D.int)
theorem RowD.seq {d : D} {ls : List Nat} (h : RowD d ls) : seqO d = some (ls.map natD) := by rcases h with rfl | rfl <;> rfl
theorem RowI.seq {d : D} {ls : List Int} (h : RowI d ls) : seqO d = some (ls.map D.int) := by rcases h with rfl | rfl <;> rfl
theorem RowD.item {d : D} {ls : List Nat} (h : RowD d ls) {z : Option Nat} {j : Int} : itemOf (z, .fd (.sh d)) (.int j) = (atI (ls.map natD) j).map fun d => (none, .sh d) := by
  rcases h with rfl | rfl
  · exact item_tupS
  · exact item_lstS
/-- the same, also as a list that is owned -/
def RowO (o : O) (ls : List Nat) : Prop := o = .sh (.tup (ls.map natD)) ∨ o = .sh (.lst (ls.map natD)) ∨ o = .lst (ls.map natD)
theorem RowD.o {d : D} {ls : List Nat} (h : RowD d ls) : RowO (.sh d) ls := by
  rcases h with rfl | rfl
  · exact .inl rfl
  · exact .inr (.inl rfl)
theorem RowO.item {o : O} {ls : List Nat} (h : RowO o ls) {z : Option Nat} {j : Int} : itemOf (z, o) (.int j) = (atI (ls.map natD) j).map fun d => (none, .sh d) := by
  rcases h with rfl | rfl | rfl
  · exact item_tupS
  · exact item_lstS
  · exact item_lstO
theorem snoc_ind {α : Type} {P : List α → Prop} (h0 : P []) (h1 : ∀ xs x, P xs → P (xs ++ [x])) (xs : List α) : P xs := by
  have h : ∀ ys : List α, P ys.reverse := fun ys => by
    induction ys with
    | nil => exact h0
    | cons y ys ih => rw [List.reverse_cons]; exact h1 _ _ ih
  have := h xs.reverse
  rwa [List.reverse_reverse] at this
def conB (ls : List Nat) : Bool := decide (∃ l ∈ ls, (l : Int) = 1) || ls.any fun l => decide (∃ m ∈ ls, (m : Int) = ((flp l : Nat) : Int))
/-- each once, in the order of coming -/
def ddL (ls : List Nat) : List Nat := ls.foldl putKs []
theorem ddL_snoc {ls : List Nat} {l : Nat} : ddL (ls ++ [l]) = putKs (ddL ls) l := by simp [ddL, List.foldl_append]
theorem ddL_mem {ls : List Nat} {l : Nat} : l ∈ ddL ls ↔ l ∈ ls := by
  induction ls using snoc_ind with
  | h0 => simp [ddL]
  | h1 ls x ih => rw [ddL_snoc, putKs_mem, ih]; simp
def litI (l : Nat) : Int := if (l : Int) % 2 = 0 then (l : Int) / 2 else -((l : Int) / 2)
theorem con_out {ls : List Nat} (h : conB ls = false) {l m : Nat} (hl : l ∈ ls) (hm : m ∈ ls) : m ≠ 1 ∧ m ≠ flp l := by
  unfold conB at h
  obtain ⟨h1, h2⟩ := Bool.or_eq_false_iff.mp h
  constructor
  · rintro rfl
    exact of_decide_eq_false h1 ⟨1, hm, rfl⟩
  · rintro rfl
    have := List.any_eq_false.mp h2 l hl
    exact this (decide_eq_true ⟨_, hm, rfl⟩)
/-- what the dict holds after so many literals -/
structure DctOk (pre : List Nat) (ks : List Key) (vs : List D) : Prop where
  len : ks.length = vs.length
  key : ks = (((ddL pre).filter fun l => decide (1 < l)).map fun l : Nat => (l : Int) / 2).map Sum.inl
  val : ∀ l ∈ pre, 1 < l → lookK ks vs (.inl ((l : Int) / 2)) = some (.int (litI l))
theorem DctOk.put {ls pre : List Nat} {ks : List Key} {vs : List D} {l : Nat} (hc : conB ls = false) (hp : ∀ m ∈ pre, m ∈ ls) (hm : l ∈ ls) (h : DctOk pre ks vs) (hl : 1 < l) : DctOk (pre ++ [l]) (putKs ks (.inl ((l : Int) / 2))) (putVs ks vs (.inl ((l : Int) / 2)) (.int (litI l))) := by
  have uni : ∀ m ∈ ls, (m : Int) / 2 = (l : Int) / 2 → m = l := fun m hml e => by
    have h1 := (con_out hc hm hml).2
    have h2 := (con_out hc hml hm).2
    unfold flp at h1 h2
    split at h1 <;> split at h2 <;> omega
  constructor
  · exact putVs_len h.len
  · rw [h.key, ddL_snoc]
    by_cases hd : l ∈ ddL pre
    · have hk : (Sum.inl ((l : Int) / 2) : Key) ∈ (((ddL pre).filter fun l => decide (1 < l)).map fun l : Nat => (l : Int) / 2).map Sum.inl := List.mem_map.mpr ⟨_, List.mem_map.mpr ⟨l, List.mem_filter.mpr ⟨hd, decide_eq_true hl⟩, rfl⟩, rfl⟩
      unfold putKs
      rw [if_pos hk, if_pos hd]
    · have hk : ¬ (Sum.inl ((l : Int) / 2) : Key) ∈ (((ddL pre).filter fun l => decide (1 < l)).map fun l : Nat => (l : Int) / 2).map Sum.inl := by
        intro z
        obtain ⟨i, hi, e⟩ := List.mem_map.mp z
        obtain ⟨m, hm2, e2⟩ := List.mem_map.mp hi
        have hm3 := (List.mem_filter.mp hm2).1
        have e3 : (m : Int) / 2 = (l : Int) / 2 := by rw [e2]; exact Sum.inl.inj e
        exact hd (uni m (hp m (ddL_mem.mp hm3)) e3 ▸ hm3)
      unfold putKs
      rw [if_neg hk, if_neg hd, List.filter_append, List.map_append, List.map_append]
      simp [hl]
  · intro m hm2 h1
    rw [lookK_put h.len]
    by_cases e : (m : Int) / 2 = (l : Int) / 2
    · have hml : m ∈ ls := by
        rcases List.mem_append.mp hm2 with z | z
        · exact hp m z
        · simp at z; subst z; exact hm
      rw [if_pos (by rw [e]), uni m hml e]
    · rw [if_neg fun z => e (Sum.inl.inj z).symm]
      rcases List.mem_append.mp hm2 with z | z
      · exact h.val m z h1
      · simp at z; subst z; exact absurd rfl e
end
end DL

end

section
set_option Elab.async false
set_option linter.all false
set_option maxRecDepth 100000
namespace DL
open PySem L2 RZ PyProof.Rows
section
variable {Q : O → DL.Env → Prop} {X : D → DL.Env → Prop} {ρ : DL.Env}
end
end DL

end

section
set_option Elab.async false
set_option linter.all false
set_option maxRecDepth 100000
namespace DL
open PySem L2 RZ PyProof.Rows
theorem RB.int {i : Int} (h : i.natAbs < 1000000000) : RB 0 11 (.int i) := by
  by_cases h0 : 0 ≤ i
  · exact (RB.nat h0 (by omega)).mono (Nat.le_refl _) (by decide)
  · refine ⟨.int i, by simp only [toPy], ?_, ?_, Nat.le_refl _⟩
    · simp only [PyData.showable]
      exact decide_eq_true (log2_1920 (by omega))
    · simp only [PyData.shown]
      have e := toString_neg (n := i) (by omega)
      have e2 := toString_length_le (v := 0 - i) (k := 10) (by omega) (by decide) (by omega)
      rw [e]
      rw [PyProof.Rows.ofString_length] at e2 ⊢
      rw [String.toList_append, List.length_append]
      have : ("-" : String).toList.length = 1 := rfl
      omega
end DL

end

section
set_option Elab.async false
set_option linter.all false
set_option maxRecDepth 100000
namespace DL
open PySem L2 RZ PyProof.Rows
def d_is_bit : MS :=
  (sRet (mMap O.sh (mAndV (mMap O.toD (mCallF sem_is_count [some 0] (mHas 0 (mPure [])))) (mMap O.toD (mOpN 0 (liftB fun i j => decide (i < j)) (mMap (fun d => ((none : Option Nat), O.sh d)) (mPure (.int 2))))))))
def sem_is_bit : Sem := semOf 1 1 [0] d_is_bit
def d_are_bits : MS :=
  (sRet (mMap O.sh (mAndV (mIsi ["tuple", "list"] (mNameB 0)) (mAndV (mMap O.toD (mOpS eqO (mCall (f1 lenD) (mConsB true (mNameB 0) (mPure []))) (mNameB 1))) (mMap O.toD (mCall (f1 allD) (mConsB true (mMap (fun o => ((none : Option Nat), o)) (mLc [2] (mBind (mNameV 0) seqD) (bName 2) (mPure true) (mMap O.toD (mCallF sem_is_bit [some 2] (mHas 2 (mPure [])))))) (mPure []))))))))
def sem_are_bits : Sem := semOf 3 2 [0, 1] d_are_bits
def d_Machine___init__ : MS :=
  (sSeq (sIf (mOrT (mMap (fun b => !b) (mTru (mMap (fun o => ((none : Option Nat), o)) (mCallF sem_is_count [some 2] (mHas 2 (mPure [])))))) (mBl (mOpN 2 (liftB fun i j => decide (j < i)) (mBind (mNameB 1) (fieldOf tbl "leaves"))))) sBad sNext)
  (sSeq (sIf (mMap (fun b => !b) (mTru (mMap (fun o => ((none : Option Nat), o)) (mCallF sem_are_bits [some 3, none] (mHas 3 (mConsO (mOpS (liftI subI) (mMap O.sh (mFldV tbl 1 "leaves")) (mNameB 2)) (mPure []))))))) sBad sNext)
  (sSeq (sAsg 6 (mOpS addD (mOpS addD (mMap O.sh (mPure (.int 1))) (mBind (mNameB 1) (fieldOf tbl "leaves"))) (mMap (fun o => ((none : Option Nat), o)) (mCall (f1 lenD) (mConsB true (mBind (mNameB 1) (fieldOf tbl "gates")) (mPure []))))))
  (sSeq (sIf (mOrT (mMap (fun b => !b) (mTru (mMap (fun d => ((none : Option Nat), O.sh d)) (mIsi ["tuple", "list"] (mNameB 4))))) (mBl (mOpS neO (mCall (f1 lenD) (mConsB true (mNameB 4) (mPure []))) (mMap (fun o => ((none : Option Nat), o)) (mOpS (liftI subI) (mMap O.sh (mFldV tbl 1 "leaves")) (mNameB 2)))))) sBad sNext)
  (sSeq (sIf (mMap (fun b => !b) (mTru (mMap (fun o => ((none : Option Nat), o)) (mCall (f1 allD) (mConsB true (mMap (fun o => ((none : Option Nat), o)) (mLc [7] (mBind (mNameV 4) seqD) (bName 7) (mPure true) (mMap O.toD (mCallF sem_is_literal [some 7, some 6] (mHas 7 (mHas 6 (mPure []))))))) (mPure [])))))) sBad sNext)
  (sSeq (sIf (mMap (fun b => !b) (mTru (mMap (fun o => ((none : Option Nat), o)) (mCallF sem_is_literal [some 5, some 6] (mHas 5 (mHas 6 (mPure []))))))) sBad sNext)
  (sSeq (sFldX tbl 0 "graph" (mMap O.sh (mNameV 1)))
  (sSeq (sFldX tbl 0 "inputs" (mMap O.sh (mNameV 2)))
  (sSeq (sFldX tbl 0 "resets" (mCall (f1 tupleD) (mConsB true (mNameB 3) (mPure []))))
  (sSeq (sFldX tbl 0 "nexts" (mCall (f1 tupleD) (mConsB true (mNameB 4) (mPure []))))
  (sFldX tbl 0 "wish" (mMap O.sh (mNameV 5)))))))))))))
def sem_Machine___init__ : Sem := semOf 8 6 [0, 1, 2, 3, 4, 5] d_Machine___init__
section
variable {Q : O → DL.Env → Prop} {X : D → DL.Env → Prop} {ρ : DL.Env}
structure Mch where
  inputs : Nat
  regs : Nat
  gs : List (Nat × Nat)
  resets : List Nat
  nexts : List Nat
  wish : Nat
structure MOk (m : Mch) : Prop where
  i : m.inputs ≤ 20
  r : m.regs ≤ 20
  n : m.gs.length ≤ 400
  g : GOk (m.inputs + m.regs) m.gs
  rl : m.resets.length = m.regs
  rb : ∀ v ∈ m.resets, v < 2
  nl : m.nexts.length = m.regs
  nb : ∀ l ∈ m.nexts, l < 2 * (1 + (m.inputs + m.regs) + m.gs.length)
  w : m.wish < 2 * (1 + (m.inputs + m.regs) + m.gs.length)
section
variable {z : Option Nat} {m : Mch}
end
section
variable {d d1 d2 d3 d4 : D}
end
end
end DL

end

section
set_option Elab.async false
set_option linter.all false
set_option maxRecDepth 100000
namespace DL
open PySem L2 RZ PyProof.Rows
theorem Reps.rep {κ : Kx} {F : Hp} {vs : List V} {ds : List D} (r : Reps κ F vs ds) : ∀ n : Nat, Reps κ F (List.replicate n vs).flatten (List.replicate n ds).flatten
  | 0 => .nil
  | n + 1 => by
    rw [List.replicate_succ, List.replicate_succ, List.flatten_cons, List.flatten_cons]
    exact r.append (Reps.rep r n)
def setL : O → D → D → Option O
  | .fd (.ct (.lst xs)), .int j, d => match ixN xs.length j with
    | some n => some (.lst (xs.set n d))
    | none => none
  | _, _, _ => none
theorem setL_some {o o' : O} {k d : D} (e : setL o k d = some o') : ∃ xs j n, o = .lst xs ∧ k = .int j ∧ ixN xs.length j = some n ∧ o' = .lst (xs.set n d) := by
  unfold setL at e
  split at e
  · split at e
    · rename_i n hn
      cases e
      exact ⟨_, _, n, rfl, rfl, hn, rfl⟩
    · cases e
  · cases e
section
variable {X : Cx} {W : WX'} {mu : List Nat} {e k : Expr} {p q : Bool} {pos : Pos}
end
section
variable {ρ : DL.Env} {K : Ks} {i : Nat}
end
section
variable {X : Cx} {κ : Kx} {W : WX'} {e : Expr} {es : List Expr} {p : Bool} {ps pos : Pos} {x : Str} {r : List V → Hp → VK → Prop} {f : List O → Option O} {ms : M (List (Option Nat × O))}
end
end DL

end

section
set_option Elab.async false
set_option linter.all false
set_option maxRecDepth 100000
namespace DL
open PySem L2 RZ PyProof.Rows
section
variable {Q : O → DL.Env → Prop} {X : D → DL.Env → Prop} {ρ : DL.Env}
end
end DL

end

section
set_option Elab.async false
set_option linter.all false
set_option maxRecDepth 100000
namespace DL
open PySem L2 RZ PyProof.Rows
section
variable {X : Cx} {W : WX'} {tg e : Expr} {p : Bool}
end
section
variable {X : Cx} {W : WX'} {e st : Expr} {p : Bool} {m : M (Option Nat × O)}
end
end DL

end

section
set_option Elab.async false
set_option linter.all false
set_option maxRecDepth 100000
namespace PySem
open PyProof.Rows
namespace F
end F
section
variable {prog : Program} {w : World} {A : Around} {R : Result → Shared → Prop} {I : Addr} {fp wr : List Addr} {n : Nat} {P : Nat → Value → Prop} {St : Nat → Heap → Prop}
end
section
variable {prog : Program} {w : World} {A : Around} {E : Value → Shared → Prop} {s : Shared}
end
end PySem
namespace L2
open PySem PySem.Spec PyProof.Rows
section
variable {X : Cx}
end
end L2
namespace DL
open PySem L2 RZ PyProof.Rows
end DL

end

section
set_option Elab.async false
set_option linter.all false
set_option maxRecDepth 100000
namespace DL
open PySem L2 RZ PyProof.Rows
section
variable {X : Cx} {W : WX'} {x c f : Str} {p px pf pos : Pos} {e0 : Expr} {j k i : Nat} {ps : List Str} {sem : Sem} {m0 : M D} {tbl : Str → Str → Bool} {pp : Bool}
end
end DL

end

section
set_option Elab.async false
set_option linter.all false
set_option maxRecDepth 100000
set_option maxHeartbeats 2000000
namespace L2
open PySem PySem.Spec PyProof.Rows
section
variable {X : Cx}
end
end L2
namespace DL
open PySem L2 RZ PyProof.Rows
end DL
namespace DL
open PySem L2 RZ PyProof.Rows
section
variable {X : Cx} {κ : Kx} {W : WX'} {p : Bool} {mu : List Nat}
end
section
variable {ρ : DL.Env} {K : Ks}
end
end DL

end

section
set_option Elab.async false
set_option linter.all false
set_option maxRecDepth 100000
namespace DL
open PySem L2 RZ PyProof.Rows

structure IsC (K : PySem.W.Frag) (mg : Str → Option Value) (c : Str) : Prop where
  ex : ∃ C : Addr, mg c = some (.ref C) ∧ Cls K C ∧ PySem.W.findIn K (.ref C) "__class__" = some (some (.builtin "object.__class__")) ∧ PySem.W.specialIn K (.builtin "object.__class__") "__get__" = some (some (.builtin "getset_descriptor.__get__")) ∧
    PySem.W.takesIn K (.builtin "object.__class__") = some true ∧ PySem.W.mroIn K C (.type "object") = some true ∧ PySem.W.kitOne K (.ref C) (.ref C) = some true
def obC (c : Str) : D → Bool
  | .ob c' _ _ => decide (c' = c)
  | _ => false
theorem obC_of {c : Str} {d : D} (h : obC c d = true) : ∃ ns vs, d = .ob c ns vs := by
  unfold obC at h
  split at h
  · rename_i c' ns vs
    have := of_decide_eq_true h
    subst this
    exact ⟨_, _, rfl⟩
  · cases h
def mIsC (c : Str) (m : M (Option Nat × O)) : M D := mBind m fun x => if obC c x.2.toD = true then mPure (.bl true) else fun _ => .bad
theorem Rep.ob_at {κ : Kx} {F : Hp} {v : V} {c : Str} {ns : List Str} {vs : List D} (r : Rep κ F v (.ob c ns vs)) : ∃ a C dx fs, v = .ref a ∧ F a = some (.ins C dx fs) ∧ κ.mg c = some (.ref C) := by
  cases r with
  | ob h m _ => exact ⟨_, _, _, _, rfl, h, m⟩
section
variable {X : Cx} {W : WX'} {e : Expr} {p : Bool} {m : M (Option Nat × O)}
theorem dV_isC {c : Str} {cp : Pos} {st : Expr} (C : IsC X.K X.mg c) (h : ∀ t, PA X [e, .Name c cp] t → PE X st (tCB (rIsi X.K) t)) (he : PE X e (tB (kx X) W p m)) (hg : Gl X c) (hdb : (c == ("__debug__" : Str)) = false := by decide)
    (hs1 : starEach (e :: [.Name c cp]) X.env = (false, eval e X.env) :: starEach [.Name c cp] X.env := by rfl) (hs2 : starEach (.Name c cp :: []) X.env = (false, eval (.Name c cp) X.env) :: starEach [] X.env := by rfl) : PE X st (tV (kx X) W p (mIsC c m)) := by
  obtain ⟨a0, hm, c1, c2, c3, c4, c5, c6⟩ := C.ex
  refine pe_imp (h _ (pa_cons he (pa_cons (pe_glob (v := .ref a0) hg hm rfl hdb) pa_nil hs2) hs1)) fun σ H Q ⟨A, F, ρ, τ, υ, g, h⟩ => ⟨A, F, ρ, τ, υ, g, h.bind.imp fun x ρ1 h v B A1 F1 H1 s1 g1 w _ => ?_⟩
  split at h
  · rename_i ho
    obtain ⟨ns, vs, ex⟩ := obC_of ho
    have r := w.repH g1.fh
    rw [ex] at r
    obtain ⟨a, C', dx, fs, rfl, h1, h2⟩ := r.ob_at
    have h2 : X.mg c = some (.ref C') := h2
    rw [hm] at h2
    cases h2
    exact ⟨.ref a, .ref a0, .ref a0, .ref a0, true, rfl, .own a0, .base (.ins h1 c1 c2 c3 c4 c5), c6, h _ A1 F1 H1 s1 g1 (.bl _)⟩
  · exact h.elim
end

section
variable {X : Cx} {W : WX'} {e o : Expr} {p : Bool}
end
end DL

end

section
set_option Elab.async false
set_option linter.all false
set_option maxRecDepth 100000
namespace DL
open PySem L2 RZ PyProof.Rows

section
variable {i : Nat} {k : Key}
end
section
variable {X : Cx} {W : WX'} {mu : List Nat} {e ke : Expr} {p q : Bool} {i : Nat} {x : Str} {px : Pos} {st : Stmt} {s : Str}
end
end DL

end

section
set_option Elab.async false
set_option linter.all false
set_option maxRecDepth 100000
namespace DL
open PySem L2 RZ PyProof.Rows

section
variable {X : Cx} {W : WX'} {f x y s : Str} {p px py ps' pos : Pos} {ke : Expr} {j' k' i j : Nat} {ps : List Str} {sem : Sem}
end
end DL

end

section
set_option Elab.async false
set_option linter.all false
set_option maxRecDepth 100000
namespace DL
open PySem L2 RZ PyProof.Rows
section
variable {Q : O → DL.Env → Prop} {X : D → DL.Env → Prop} {ρ : DL.Env}
/-- bits of so many leaves -/
structure OkB (leaves : Nat) (bs : List Nat) : Prop where
  len : bs.length = leaves
  bit : ∀ v ∈ bs, v < 2
structure BOk (leaves : Nat) (gs : List (Nat × Nat)) : Prop where
  ok : GOk leaves gs
  nd : gs.Nodup
/-- a literal that is worth f -/
structure Lit (leaves : Nat) (gs : List (Nat × Nat)) (l : Nat) (f : List Nat → Nat) : Prop where
  lt : l < 2 * (1 + leaves + gs.length)
  val : ∀ bs, OkB leaves bs → bitL (valsL gs bs) l = f bs
/-- at most n gates more -/
structure Ext (leaves : Nat) (gs gs' : List (Nat × Nat)) (n : Nat) : Prop where
  ok : BOk leaves gs'
  pre : ∃ more, gs' = gs ++ more ∧ more.length ≤ n
theorem valsG_pre {vs : List Nat} {gs : List (Nat × Nat)} : ∃ more, valsG vs gs = vs ++ more := by
  induction gs generalizing vs with
  | nil => exact ⟨[], (List.append_nil _).symm⟩
  | cons g gs ih =>
    obtain ⟨more, e⟩ := ih (vs := vs ++ [bitL vs g.1 * bitL vs g.2])
    exact ⟨[bitL vs g.1 * bitL vs g.2] ++ more, by show valsG (vs ++ [_]) gs = _; rw [e, List.append_assoc]⟩
theorem valsG_app {vs : List Nat} {gs hs : List (Nat × Nat)} : valsG vs (gs ++ hs) = valsG (valsG vs gs) hs := by simp [valsG, List.foldl_append]
theorem bitL_pre {vs more : List Nat} {l : Nat} (h : l / 2 < vs.length) : bitL (vs ++ more) l = bitL vs l := by
  unfold bitL
  rw [List.getD_eq_getElem?_getD, List.getD_eq_getElem?_getD, List.getElem?_append_left h]
theorem valsL_more {gs more : List (Nat × Nat)} {bs : List Nat} {l : Nat} (h : l < 2 * (1 + bs.length + gs.length)) : bitL (valsL (gs ++ more) bs) l = bitL (valsL gs bs) l := by
  obtain ⟨m, e⟩ := valsG_pre (vs := valsL gs bs) (gs := more)
  have e2 : valsL (gs ++ more) bs = valsL gs bs ++ m := by rw [← e]; exact valsG_app
  rw [e2]
  exact bitL_pre (by rw [valsL_len]; omega)
theorem Lit.more {leaves l n : Nat} {gs gs' : List (Nat × Nat)} {f : List Nat → Nat} (h : Lit leaves gs l f) (e : Ext leaves gs gs' n) : Lit leaves gs' l f := by
  obtain ⟨more, rfl, _⟩ := e.pre
  refine ⟨by have := h.lt; rw [List.length_append]; omega, fun bs hb => ?_⟩
  rw [valsL_more (by rw [hb.len]; exact h.lt)]
  exact h.val bs hb
theorem Lit.le {leaves l : Nat} {gs : List (Nat × Nat)} {f : List Nat → Nat} (h : Lit leaves gs l f) {bs : List Nat} (hb : OkB leaves bs) : f bs < 2 := by
  rw [← h.val bs hb]
  exact bitL_le (valsL_bit hb.bit) l
theorem Ext.refl {leaves : Nat} {gs : List (Nat × Nat)} (h : BOk leaves gs) : Ext leaves gs gs 0 := ⟨h, [], by simp, by simp⟩
theorem Ext.trans {leaves m n : Nat} {gs gs' gs'' : List (Nat × Nat)} (a : Ext leaves gs gs' m) (b : Ext leaves gs' gs'' n) : Ext leaves gs gs'' (m + n) := by
  obtain ⟨m1, rfl, h1⟩ := a.pre
  obtain ⟨m2, rfl, h2⟩ := b.pre
  exact ⟨b.ok, m1 ++ m2, by simp, by rw [List.length_append]; omega⟩
theorem Ext.le {leaves m n : Nat} {gs gs' : List (Nat × Nat)} (a : Ext leaves gs gs' m) (h : m ≤ n) : Ext leaves gs gs' n := by
  obtain ⟨m1, e, h1⟩ := a.pre
  exact ⟨a.ok, m1, e, by omega⟩
theorem Ext.len {leaves m : Nat} {gs gs' : List (Nat × Nat)} (a : Ext leaves gs gs' m) : gs.length ≤ gs'.length ∧ gs'.length ≤ gs.length + m := by
  obtain ⟨m1, rfl, h1⟩ := a.pre
  rw [List.length_append]
  omega
end
end DL

end

section
set_option Elab.async false
set_option linter.all false
set_option maxRecDepth 100000
namespace DL
open PySem L2 RZ PyProof.Rows
section
variable {Q : O → DL.Env → Prop} {X : D → DL.Env → Prop} {ρ : DL.Env}
theorem BOk.snoc {leaves a b : Nat} {gs : List (Nat × Nat)} (h : BOk leaves gs) (h1 : a < 2 * (1 + leaves + gs.length)) (h2 : b < 2 * (1 + leaves + gs.length)) (hn : (a, b) ∉ gs) : BOk leaves (gs ++ [(a, b)]) :=
  ⟨h.ok.snoc h1 h2, by
    rw [List.nodup_append]
    refine ⟨h.nd, by simp, fun x hx y hy => ?_⟩
    simp at hy
    subst hy
    exact fun e => hn (e ▸ hx)⟩
end
end DL

end

section
set_option Elab.async false
set_option linter.all false
set_option maxRecDepth 100000
namespace DL
open PySem L2 RZ PyProof.Rows
section
variable {Q : O → DL.Env → Prop} {X : D → DL.Env → Prop} {ρ : DL.Env}
def wv (v : Nat → Nat) : List Nat → Nat
  | [] => 0
  | l :: ls => v l + 2 * wv v ls
/-- the number of a word by the bits of the leaves -/
def num (gs : List (Nat × Nat)) (bs ls : List Nat) : Nat := wv (bitL (valsL gs bs)) ls
/-- literals of nodes that stand -/
def InW (leaves : Nat) (gs : List (Nat × Nat)) (ls : List Nat) : Prop := ∀ l ∈ ls, l < 2 * (1 + leaves + gs.length)
theorem InW.more {leaves n : Nat} {gs gs' : List (Nat × Nat)} {ls : List Nat} (h : InW leaves gs ls) (e : Ext leaves gs gs' n) : InW leaves gs' ls := fun l hl => by
  have h1 := h l hl
  have h2 := e.len
  omega
theorem InW.snoc {leaves l : Nat} {gs : List (Nat × Nat)} {ls : List Nat} {f : List Nat → Nat} (h : InW leaves gs ls) (hl : Lit leaves gs l f) : InW leaves gs (ls ++ [l]) := fun x hx => by
  rcases List.mem_append.mp hx with hx | hx
  · exact h x hx
  · simp at hx
    subst hx
    exact hl.lt
theorem InW.lit {leaves l : Nat} {gs : List (Nat × Nat)} {ls : List Nat} (h : InW leaves gs ls) (hl : l ∈ ls) : Lit leaves gs l fun bs => bitL (valsL gs bs) l := ⟨h l hl, fun _ _ => rfl⟩
theorem InW.nil {leaves : Nat} {gs : List (Nat × Nat)} : InW leaves gs [] := fun l hl => by simp at hl
/-- what a word's sum is worth -/
structure SumOk (leaves : Nat) (gs gs' : List (Nat × Nat)) (one other rs : List Nat) (cy : Nat) (h hc : List Nat → Nat) : Prop where
  len : rs.length = one.length
  inw : InW leaves gs' rs
  lit : Lit leaves gs' cy hc
  val : ∀ bs, OkB leaves bs → num gs' bs rs + 2 ^ one.length * hc bs = num gs bs one + num gs bs other + h bs
end
end DL

end

section
set_option Elab.async false
set_option linter.all false
set_option maxRecDepth 100000
namespace DL
open PySem L2 RZ PyProof.Rows
section
variable {X : Cx} {κ : Kx} {W : WX'} {a b : Expr} {pa : Bool} {ma mb : M (Option Nat × O)} {pos : Pos} {r : R2} {f : D → D → Option O}
end
section
variable {X : Cx} {κ : Kx} {W : WX'} {e : Expr} {es : List Expr} {m : M D} {ms : M (List D)}
end
theorem kit_self {K : PySem.W.Frag} {C : Addr} : PySem.W.kitOne K (.ref C) (.ref C) = some true := by
  unfold PySem.W.kitOne
  rw [if_pos (by simp)]
section
variable {i j : Nat} {ρ : DL.Env} {X : D → DL.Env → Prop} {K : Ks} {k : Key}
end
end DL

end

section
set_option Elab.async false
set_option linter.all false
set_option maxRecDepth 100000
namespace DL
open PySem L2 RZ PyProof.Rows
section
variable {Q : O → DL.Env → Prop} {X : D → DL.Env → Prop} {ρ : DL.Env}
def idxG (g : Nat × Nat) : List (Nat × Nat) → Option Nat
  | [] => none
  | x :: xs => if x = g then some 0 else (idxG g xs).map (· + 1)
theorem idxG_some {g : Nat × Nat} : ∀ {gs : List (Nat × Nat)} {k : Nat}, idxG g gs = some k → gs[k]? = some g
  | [], _, h => by cases h
  | x :: xs, k, h => by
    unfold idxG at h
    split at h
    · rename_i e; cases h; rw [e]; rfl
    · cases e : idxG g xs with
      | none => rw [e] at h; cases h
      | some j =>
        rw [e] at h
        cases h
        show (x :: xs)[j + 1]? = some g
        simpa using idxG_some e
theorem idxG_none {g : Nat × Nat} : ∀ {gs : List (Nat × Nat)}, idxG g gs = none → g ∉ gs
  | [], _ => by simp
  | x :: xs, h => by
    unfold idxG at h
    split at h
    · cases h
    · rename_i n
      cases e : idxG g xs with
      | some j => rw [e] at h; cases h
      | none =>
        intro z
        rcases List.mem_cons.mp z with z | z
        · exact n z.symm
        · exact idxG_none e z
def restL (leaves : Nat) (gs : List (Nat × Nat)) (lo hi : Nat) : Nat × List (Nat × Nat) :=
  if lo = 1 ∨ lo = hi then (hi, gs) else match idxG (hi, lo) gs with
    | some k => (2 * (1 + leaves + k), gs)
    | none => (2 * (1 + leaves + gs.length), gs ++ [(hi, lo)])
def andL (leaves : Nat) (gs : List (Nat × Nat)) (a b : Nat) : Nat × List (Nat × Nat) :=
  if min a b = 0 ∨ flp (min a b) = max a b then (0, gs) else restL leaves gs (min a b) (max a b)
theorem restL_ok {leaves lo hi : Nat} {gs : List (Nat × Nat)} (hB : BOk leaves gs) (kl : lo < 2 * (1 + leaves + gs.length)) (kh : hi < 2 * (1 + leaves + gs.length)) :
    Ext leaves gs (restL leaves gs lo hi).2 1 ∧ (restL leaves gs lo hi).1 < 2 * (1 + leaves + (restL leaves gs lo hi).2.length) := by
  have x0 := (Ext.refl hB).le (n := 1) (by omega)
  unfold restL
  split
  · exact ⟨x0, kh⟩
  · split
    · rename_i k hk
      have := (List.getElem?_eq_some_iff.mp (idxG_some hk)).1
      exact ⟨x0, by show 2 * (1 + leaves + k) < 2 * (1 + leaves + gs.length); omega⟩
    · rename_i hk
      exact ⟨⟨hB.snoc kh kl (idxG_none hk), [(hi, lo)], rfl, by simp⟩, by show 2 * (1 + leaves + gs.length) < 2 * (1 + leaves + (gs ++ [(hi, lo)]).length); rw [List.length_append, List.length_singleton]; omega⟩
theorem andL_ok {leaves a b : Nat} {gs : List (Nat × Nat)} (hB : BOk leaves gs) (ka : a < 2 * (1 + leaves + gs.length)) (kb : b < 2 * (1 + leaves + gs.length)) :
    Ext leaves gs (andL leaves gs a b).2 1 ∧ (andL leaves gs a b).1 < 2 * (1 + leaves + (andL leaves gs a b).2.length) := by
  unfold andL
  split
  · exact ⟨(Ext.refl hB).le (n := 1) (by omega), by show 0 < 2 * (1 + leaves + gs.length); omega⟩
  · exact restL_ok hB (by omega) (by omega)
def ledL (t : List Nat) (l : Nat) : Nat := if l % 2 = 0 then t.getD (l / 2) 0 else flp (t.getD (l / 2) 0)
def putStep (leaves : Nat) (s : List Nat × List (Nat × Nat)) (g : Nat × Nat) : List Nat × List (Nat × Nat) :=
  (s.1 ++ [(andL leaves s.2 (ledL s.1 g.1) (ledL s.1 g.2)).1], (andL leaves s.2 (ledL s.1 g.1) (ledL s.1 g.2)).2)
def putL (leaves : Nat) (s : List Nat × List (Nat × Nat)) (gm : List (Nat × Nat)) : List Nat × List (Nat × Nat) := gm.foldl (putStep leaves) s
theorem putL_snoc {leaves : Nat} {s : List Nat × List (Nat × Nat)} {gm : List (Nat × Nat)} {g : Nat × Nat} : putL leaves s (gm ++ [g]) = putStep leaves (putL leaves s gm) g := by simp [putL, List.foldl_append]
structure PutOk (leaves : Nat) (gs : List (Nat × Nat)) (m n : Nat) (s : List Nat × List (Nat × Nat)) : Prop where
  ext : Ext leaves gs s.2 n
  len : s.1.length = 1 + m + n
  lt : ∀ x ∈ s.1, x < 2 * (1 + leaves + s.2.length)
theorem ledL_lt {t : List Nat} {l b : Nat} (h : ∀ x ∈ t, x < 2 * b) (hl : l / 2 < t.length) : ledL t l < 2 * b := by
  have hv : t[l / 2]? = some t[l / 2] := List.getElem?_eq_getElem hl
  have e3 : t.getD (l / 2) 0 = t[l / 2] := by rw [List.getD_eq_getElem?_getD, hv]; rfl
  have := h _ (List.getElem_mem hl)
  unfold ledL
  rw [e3]
  split
  · exact this
  · unfold flp
    split <;> omega
theorem PutOk.step {leaves m n : Nat} {gs : List (Nat × Nat)} {s : List Nat × List (Nat × Nat)} {g : Nat × Nat} (h : PutOk leaves gs m n s) (h1 : g.1 < 2 * (1 + m + n)) (h2 : g.2 < 2 * (1 + m + n)) : PutOk leaves gs m (n + 1) (putStep leaves s g) := by
  have k1 := ledL_lt (l := g.1) h.lt (by rw [h.len]; omega)
  have k2 := ledL_lt (l := g.2) h.lt (by rw [h.len]; omega)
  obtain ⟨x1, x2⟩ := andL_ok h.ext.ok k1 k2
  refine ⟨h.ext.trans x1, by unfold putStep; simp [h.len]; omega, fun x hx => ?_⟩
  unfold putStep at hx ⊢
  have hl := x1.len
  rcases List.mem_append.mp hx with hx | hx
  · have := h.lt x hx
    show x < 2 * (1 + leaves + (andL leaves s.2 (ledL s.1 g.1) (ledL s.1 g.2)).2.length)
    omega
  · simp at hx
    subst hx
    exact x2
theorem PutOk.all {leaves m : Nat} {gs gm : List (Nat × Nat)} {ls : List Nat} (hB : BOk leaves gs) (hg : GOk m gm) (hl : ls.length = m) (h : ∀ x ∈ ls, x < 2 * (1 + leaves + gs.length)) : ∀ pre post, gm = pre ++ post → PutOk leaves gs m pre.length (putL leaves (0 :: ls, gs) pre) := by
  intro pre
  induction pre using snoc_ind with
  | h0 =>
    intro post e
    refine ⟨Ext.refl hB, by show (0 :: ls).length = 1 + m + 0; simp [hl]; omega, fun x hx => ?_⟩
    rcases List.mem_cons.mp hx with rfl | hx
    · show 0 < 2 * (1 + leaves + gs.length); omega
    · exact h x hx
  | h1 pre g ih =>
    intro post e
    have h1 := ih (g :: post) (by rw [e]; simp)
    have hk := hg pre g post (by rw [e]; simp)
    rw [putL_snoc, List.length_append, List.length_singleton]
    exact h1.step hk.1 hk.2
end
end DL

end

section
set_option Elab.async false
set_option linter.all false
set_option maxRecDepth 100000
namespace DL
open PySem L2 RZ PyProof.Rows
section
variable {X : Cx} {W : WX'} {e st : Expr} {p : Bool} {m : M (Option Nat × O)}
end
def eqVal (c : Str) (sem : Sem) (x y : O) : Option Bool := match x, y with
  | .fd (.sh (.ob c1 n1 d1)), .fd (.sh (.ob c2 n2 d2)) => if c1 = c ∧ c2 = c then (match sem [.sh (.ob c1 n1 d1), .sh (.ob c2 n2 d2)] with
    | .ok (.fd (.sh (.bl b))) _ => some b
    | _ => none) else none
  | _, _ => none
theorem eqVal_of {c : Str} {sem : Sem} {x y : O} {b : Bool} (h : eqVal c sem x y = some b) : ∃ n1 d1 n2 d2 fs, x = .sh (.ob c n1 d1) ∧ y = .sh (.ob c n2 d2) ∧ sem [.sh (.ob c n1 d1), .sh (.ob c n2 d2)] = .ok (.sh (.bl b)) fs := by
  unfold eqVal at h
  split at h
  · split at h
    · rename_i hc
      obtain ⟨rfl, rfl⟩ := hc
      split at h
      · rename_i es
        cases h
        exact ⟨_, _, _, _, _, rfl, rfl, es⟩
      · cases h
    · cases h
  · cases h
def mEqX (c : Str) (sem : Sem) (ma mb : M O) : M O := mBind ma fun x => mBind mb fun y => match eqVal c sem x y with
  | some b => mPure (.sh (.bl b))
  | none => fun _ => .bad
def rOwnEq (κ : Kx) (C : Addr) (sem : Sem) : R2 := fun x y H Q => ∃ a b dx dy fs gs, x = .ref a ∧ y = .ref b ∧ H a = some (.ins C dx fs) ∧ H b = some (.ins C dy gs) ∧
  spX κ 2 sem [.ref a, .ref b] H (fun v H' => (∃ c, v = .bl c) ∧ Q v H') (fun _ _ _ => False)
section
variable {X : Cx} {κ : Kx} {W : WX'} {a b : Expr} {pa pb : Bool} {ma mb : M O} {pos : Pos} {c p1 p2 : Str} {j k : Nat} {sem : Sem}
theorem op_ownEq {C f : Addr} {fd : FuncData} (M : Meth X.K C "__eq__" f) (F : FnG X.prog X.w X.K X.mg X.base CX0 j f fd [p1, p2] (spX (kx X) 2 sem)) (bi : Binds X.K fd [p1, p2] []) (hr : Rg k X.A) (hjk : j ≤ k) : OpR X (compareOp .Eq) (rOwnEq (kx X) C sem) := by
  intro pins s σ H x y v u Q I rx ry hq
  obtain ⟨a, b, dx, dy, fs, gs, rfl, rfl, ha, hb, sp⟩ := hq
  show wpAny (model X.prog X.w) X.A (richCompare .Eq v u) (EP X pins σ Q) X.xe s
  cases rx
  cases ry
  obtain ⟨mA, J, _⟩ := ins_get I.hok ha
  obtain ⟨mB, J', _⟩ := ins_get I.hok hb
  obtain ⟨od, J, _⟩ := J.look
  obtain ⟨od', J', _⟩ := J'.look
  obtain ⟨m, hF⟩ := I.fr
  refine PySem.W.cmp_K (op := .Eq) (tb := .ref C) (by have := huG hr; omega) hF I.ok.mod.kin J J'.type (by simp [PySem.W.notFirst]) M.at_ M.fn ?_
  refine wpAny_mono (run_fnG (us := [.ref a, .ref b]) (vs := [.ref a, .ref b]) (E := fun _ _ _ _ => False) (F.mono hjk) hr bi passAt0 I (.cons rfl (.cons rfl .nil)) sp) (fun r s' z => ?_) fun _ _ x => x
  obtain ⟨w, H', I', rw, ⟨cc, ew⟩, q⟩ := z
  subst ew
  cases rw
  exact ⟨.bl cc, H', I', rfl, q⟩
theorem tOp_eqX {C : Addr} (hc : κ.mg c = some (.ref C)) {σ : L2.St} {H : Hp} {Q : VK} (h : tE κ W false (mEqX c sem ma mb) σ H Q) : tOp (rOwnEq κ C sem) (tE κ W pa ma) (tE κ W pb mb) σ H Q := by
  obtain ⟨A, F, ρ, τ, υ, g, h⟩ := h
  refine ⟨A, F, ρ, τ, υ, g, h.bind.imp fun x ρ1 hx v1 A1 F1 H1 s1 g1 => ?_⟩
  refine ⟨A1, F1, ρ1, τ ++ [x], υ ++ [v1], g1, ((hx.step s1.fr).bind.pop).imp fun y ρ2 hy v2 A2 F2 H2 s2 g2 => ?_⟩
  have e1 := g2.own (.t (τ.length + 1)) y (by simp [atO])
  have e0 := g2.own (.t τ.length) x (by simp [atO])
  obtain ⟨w1, a1, o1⟩ := e0
  obtain ⟨w2, a2, o2⟩ := e1
  have hl := g.lent
  have : w1 = v1 := by simp [atV, hl] at a1; exact a1.symm
  subst this
  have : w2 = v2 := by simp [atV, hl] at a2; exact a2.symm
  subst this
  cases ev : eqVal c sem x y with
  | none => rw [ev] at hy; exact hy.elim
  | some bb =>
    rw [ev] at hy
    obtain ⟨n1, d1, n2, d2, fs2, rfl, rfl, es⟩ := eqVal_of ev
    obtain ⟨a, C1, dx, fs, rfl, h4, h5, _, _⟩ := (o1.sh_v).ob_v
    obtain ⟨b, C2, dy, gs, rfl, k4, k5, _, _⟩ := (o2.sh_v).ob_v
    rw [hc] at h5 k5
    cases h5; cases k5
    refine ⟨a, b, dx, dy, fs, gs, rfl, rfl, g2.fh _ _ h4, g2.fh _ _ k4, ?_⟩
    refine (callee (W := fun _ _ _ _ => False) (as := [none, none]) (rs := [_, _]) (us := [_, _]) rfl (by decide) (s1.fr.trans s2.fr) (by simpa using g2) g.lent (.push (.push .nil)) ?_ : spX κ 2 sem _ H2 _ fun cls d H => (fun _ _ _ _ => False) cls d σ H)
    show Wp κ _ A F H σ τ υ (match sem [.sh (.ob c n1 d1), .sh (.ob c n2 d2)] with
      | .ok r fs => .ok r (putBack ρ2 [none, none] fs ρ2)
      | .exc e fs => .exc e (putBack ρ2 [none, none] fs ρ2)
      | .bad => .bad) _
    rw [es]
    intro v A' F' H' f' g'
    have hv : v = .bl bb := by
      obtain ⟨_, w, _⟩ := G.pop (τ := τ) (r := .sh (.bl bb)) g'
      exact w.sh_v.bl_v
    exact ⟨⟨bb, hv⟩, hy v A' F' H' (.no f') g'⟩
theorem de_eqX (C : MetG X.prog X.w X.K X.mg X.base j c "__eq__" [p1, p2] sem) (hr : Rg k X.A) (hjk : j ≤ k) (ha : PE X a (tE (kx X) W pa ma)) (hb : PE X b (tE (kx X) W pb mb)) (hm : behindInMarks .Eq b = false) : PE X (.Compare a [.Eq] [b] pos) (tE (kx X) W false (mEqX c sem ma mb)) := by
  obtain ⟨C, f, fd, cl, M, F, mc, bi⟩ := C.ex
  exact pe_imp (pe_cmpR (op_ownEq M F bi hr hjk) ha hb hm) fun _ _ _ h => tOp_eqX mc h
theorem dT_eqX (C : MetG X.prog X.w X.K X.mg X.base j c "__eq__" [p1, p2] sem) (hr : Rg k X.A) (hjk : j ≤ k) (ha : PE X a (tE (kx X) W pa ma)) (hb : PE X b (tE (kx X) W pb mb)) (hm : behindInMarks .Eq b = false) : PT X (.Compare a [.Eq] [b] pos) (tT (kx X) W false (mBl (mEqX c sem ma mb))) := by
  obtain ⟨C, f, fd, cl, M, F, mc, bi⟩ := C.ex
  exact pt_imp (pt_cmpR (op_ownEq M F bi hr hjk) ha hb hm) fun _ _ _ h => tOp_eqX mc (tE_bl h)
end
section
variable {ρ : DL.Env} {X : D → DL.Env → Prop}
end
section
variable {X : Cx}
end
end DL

end

section
set_option Elab.async false
set_option linter.all false
set_option maxRecDepth 100000
namespace PySem
namespace ErrX
open PySem.W PySem.Calls PyProof.Rows PySem.HandSPX
/-- what the written part says of an own error's class, at C, and of its __init__, at fI -/
structure ErrTxt (P : Program) (K : Frag) (mg : Str → Option Value) (C fI : Addr) (c q : Str) (st : Stmt) (ps : List Str) : Prop where
  gC : mg c = some (.ref C)
  cls : ∃ nm q N bs bm sn sub ab col dd k0 k1 k2 k3 k5, K.lookup C = some (excClassObj nm q C N bs bm true sn sub ab col dd k0 k1 k2 k3 k5 "ValueError.__new__") ∧ refsVE bm = true
  sa : findIn K (.ref C) "__setattr__" = some (some (.builtin "object.__setattr__"))
  ga : findIn K (.ref C) "__getattribute__" = some (some (.builtin "BaseException.__getattribute__"))
  gg : findIn K (.ref C) "__getattr__" = some none
  noN : ∀ p ∈ ps, findIn K (.ref C) p = some none
  iC : findIn K (.ref C) "__init__" = some (some (.ref fI))
  tC : typeIn K (.ref fI) = some (.type "function")
  kC : keepIn K (.ref C) = true
  exC : subIn K (.ref C) (.type "BaseException") = some true
  tyC : typeIn K (.ref C) = some (.type "type")
  hdC : hasDictIn K C = true
  sup : ks_superIn K C C "__init__" = some (some (.builtin "ValueError.__init__"))
  ve : subIn K (.ref C) (.type "ValueError") = some true
  own : mroIn K C (.ref C) = some true
  tp : nsIn K cStatics "thirdparty.any" = some none
  ms : mg "super" = none
  top : (P.main.scope.names.lookup ("super" : Str)).isSome = false
  fn : ∃ (oc : Value) (od : Option Addr) (kV doc pm : Value) (an : Option Addr) (cda cc : Addr) (ct : Value) (osl : Array (Option Value)) (cl : Value) (cld : Option Addr) (csl : Array (Option Value)) (ccl : Value) (cdd : Option Addr) (vs : Array Value) (ccs : Array (Option Value)) (file : Str) (tf : Tok),
    K.lookup fI = some ⟨oc, od, .func (ksFn "__init__" q (L2.defArgs st) (L2.defBody st) (L2.defScope st) .none kV doc pm an (.ref cda) ct cc), osl⟩ ∧ codeIn K (.ref cda) q = true ∧ K.lookup cc = some ⟨cl, cld, .cell (some (.ref C)), csl⟩ ∧
      K.lookup cda = some ⟨ccl, cdd, .fields vs, ccs⟩ ∧ vs[2]? = some (.str file tf) ∧ ((P.main.file : Str) == file) = true
theorem kept_but {K : Frag} {h h' : Heap} {x : Addr} (X : K.In h) (hx : K.lookup x = none) (k : ∀ b o, b ≠ x → h.get? b = some o → h'.get? b = some o) : K.In h' := fun a o e =>
  k a o (fun z => by rw [z, hx] at e; cases e) (X a o e)
theorem ldK {M : Model} {s : Shared} {name : Str} {scope : Scope} {L a cc : Addr} {cd : Value} {m : Str → Option Value} {x : Str} {pos : Pos} {v : Value} {Q : Value → Shared → Prop} {A : Around} {E : Value → Shared → Prop} (hn : s.heap.Ns L m) (hv : m x = some v) (h : Q v s)
    (hk : scope.kind = .function := by rfl) (hl : (ksEnv name scope L a cd cc).kindOf x = some .local := by rfl) (hd : (x == ("__debug__" : Str)) = false := by decide) :
    wpAny M A (eval (.Name x pos) (ksEnv name scope L a cd cc)) Q E s := wpAny_Name (wpAny_loadName_local hk hl hn hv h) hd
section
variable {prog : Program} {w : World} {A : Around} {E : Value → Shared → Prop} {h : Heap} {g : Array GenState} {d : Drawn} {t : Nat} {os : OsState}
variable {nm q : Str} {C N : Addr} {bs bm : List Value} {hdct : Bool} {sn : List Str} {sub : List Value} {ab : Bool} {col : Option Bool} {dd : Option Addr} {k0 k1 k2 k3 k5 : Option Value}
/-- ValueError.__init__ bound to a fresh exception, called -/
theorem call_bwV {u e t0 : Addr} {rest : List Value} {Q : Value → Shared → Prop}
    (hC : h.get? C = some (excClassObj nm q C N bs bm hdct sn sub ab col dd k0 k1 k2 k3 k5 "ValueError.__new__")) (he : h.get? e = some (excO C t0)) (hu : h.get? u = some (kxs_mw "ValueError.__init__" e)) (hrest : rest.length ≤ sizeLine)
    (hq : ∀ h' t1, (∀ b o, b ≠ e → h.get? b = some o → h'.get? b = some o) → h'.get? e = some (excO C t1) → Q .none ⟨h', g, d, t, os⟩) :
    wpAny (model prog w) A (call (.ref u) rest) Q E ⟨h, g, d, t, os⟩ := by
  refine wpAny_call (codeAny_of_tree ?_)
  show wpAny _ A.in1 (callAny (.ref u) ⟨rest, []⟩) _ _ _
  simp only [callAny]
  refine wpAny_bind (wpAny_load hu ?_)
  simp only [kxs_mw, show (Value.type "method-wrapper" == Value.type "method" || Value.type "method-wrapper" == Value.type "builtin_function_or_method" || Value.type "method-wrapper" == Value.type "method-wrapper") = true by decide, if_true]
  refine W.KFB.if_so (by decide) ?_
  refine wpAny_bind (check_bound_init F.excBase_ValueError.toExcCallFacts hC he rfl ?_)
  refine wpAny_bind (wpAny_pure (wpAny_pure ?_))
  refine ⟨Code.quiet_builtin _ (by decide +kernel), codeAny_builtin F.excBase_ValueError.initEntry ?_⟩
  rw [Around.under_plainId F.excBase_ValueError.init.plain _]
  wp_walk
  refine hq _ h.objs.size (fun b o hb ho => ?_) ?_
  · rw [Heap.get?_update_other _ _ (Ne.symm hb)]
    exact Heap.get?_push_of_some _ ho
  · rw [Heap.get?_update_self _ (Heap.get?_push_of_some _ he) rfl]
    rfl
end
section
open Builtin Builtin.ObjectAttr
variable {prog : Program} {w : World} {A : Around} {E : Value → Shared → Prop} {R : Result → Shared → Prop} {hp : Heap} {g : Array GenState} {d : Drawn} {t : Nat} {os : OsState}
/-- self.name = v on an exception that has its dict -/
theorem exc_osaD {K : W.Frag} {name : Str} {tk : Tok} {v : Value} {x C dx : Addr} {fv : Array Value} {cd : ClassData} {m0 : Str → Option Value} {nl : List Str}
    (X : K.In hp) (hx : hp.get? x = some { cls := .ref C, dict := some dx, data := .fields fv }) (hns : hp.Ns1 dx m0) (hw : Within m0 nl) (hz : nl.length ≤ 1000) (hcd : W.clsIn K C = some cd) (hm : refsVE cd.mro = true) (hh : cd.hasDict = true)
    (ha : W.findIn K (.ref C) name = some none)
    (hq : ∀ h' tk', (∀ b o, b ≠ dx → hp.get? b = some o → h'.get? b = some o) → h'.Ns1 dx (fun y => if y = name then some v else m0 y) → R (.ok (.ret .none)) ⟨h', g, d, tk', os⟩) :
    codeAny (model prog w) A (.call (.builtin "object.__setattr__") ⟨[.ref x, .str name tk, v], []⟩) R ⟨hp, g, d, t, os⟩ := by
  obtain ⟨oD, esD, epD, hoD, hdD, _⟩ := hns.count hw
  have I : W.InstAt hp x { cls := .ref C, dict := some dx, data := .fields fv } C (some oD) := ⟨hx, rfl, rfl, hoD⟩
  have SF := F.store_object
  have ne := refsVE_ne hm
  have hob : cd.mro.contains (.type "object") = true := (refsVE_contains "object" _ hm).trans (by decide +kernel)
  have sub : W.Looks (model prog w) hp (isInstance (.ref x) (.type "object")) true := I.type.andThen (W.looks_mroIn X (by unfold W.mroIn; rw [hcd, Option.bind_some, if_neg (by rw [ne]; decide), hob]))
  refine codeAny_call_builtin SF.slot.plain SF.entry (@W.check_slot (model prog w) _ _ ⟨hp, g, d, t, os⟩ "object.__setattr__" "object" "__setattr__" (.ref x) [.str name tk, v] [] _ SF.kind SF.split sub (SF.args (.ref x) (.str name tk) v) ?_)
  have hmr : W.Looks (model prog w) hp (mroOf (.ref C)) cd.mro := (W.looks_clsIn X hcd).andThen .now
  have L3 : W.Looks (model prog w) hp (storeTaker? none) none := .now
  have hcls : W.Looks (model prog w) hp (classData C) cd := W.looks_clsIn X hcd
  rw [W.osa_eq, refuse_eq]
  refine wpAny_bind (wpAny_bind (I.type.at (wpAny_bind (hmr.at ?_))))
  rw [refsVE_pass _ _ hm]
  refine wpAny_pure (wpAny_bind (I.type.at (wpAny_bind ((W.looks_findIn X ha).at (wpAny_bind (L3.at ?_))))))
  show wpAny _ _ (storeInOwnDict (.ref x) (.ref C) (.str name tk) name v false) _ _ _
  obtain ⟨nm, bs, mro, ns, qn, hd, sn, sb, ab, col, del⟩ := cd
  dsimp only at hh
  subst hh
  unfold storeInOwnDict ownDictForStores
  repeat (first | with_reducible refine ESX.store_in_old hns hw hz ?_ | with_reducible refine wpAny_loadPart_at hx ?_ | with_reducible refine hcls.at ?_ | wp_step)
  intro h' tk' hn' hs
  exact hq h' tk' (fun b o hb ho => (hs.2 b hb).trans ho) hn'
end
/-- what __init__ leaves of a fresh exception at x: its own dict, with these fields -/
structure InitEnd (h h' : Heap) (x C dx t1 : Addr) (m : Str → Option Value) : Prop where
  keep : ∀ b o, b ≠ x → h.get? b = some o → h'.get? b = some o
  obj : h'.get? x = some { cls := .ref C, dict := some dx, data := .fields #[.ref t1, .none, .none, .none, .bool false, .none] }
  dbig : h.objs.size ≤ dx
  dne : dx ≠ x
  ns : h'.Ns1 dx m
/-- an error that is made -/
structure OwnMade (h h' : Heap) (e C d : Addr) (m : Str → Option Value) : Prop where
  keep : ∀ b o, h.get? b = some o → h'.get? b = some o
  new : h.objs.size ≤ e
  obj : ∃ oe vs, h'.get? e = some oe ∧ oe.cls = .ref C ∧ oe.dict = some d ∧ oe.data = .fields vs ∧ vs[1]? = some .none
  dbig : h.objs.size ≤ d
  dne : d ≠ e
  ns : h'.Ns1 d m
theorem call_at_eq {o : Expr} {name : Str} {p2 p3 : Pos} {e : Expr} {es : List Expr} {env : Env} (hpl : (p2.endLine == p3.line) = true) (hf : methodCallForm ((e :: es).length + 0) (backTo p3 (starEach (e :: es) env)) [] = true) :
    eval (.Call (.Attribute o name p2) (e :: es) [] p3) env = (do
      let ov ← attributeBase o name env (eval o env)
      standAt p2.atName
      let (f, first) ← holding [ov] (getMethod ov name (do return (← importBound o env).getD true))
      callWith p3 f first (backTo p3 (starEach (e :: es) env)) []) := by
  have h : eval (.Call (.Attribute o name p2) (e :: es) [] p3) env = (do
      let ov ← attributeBase o name env (eval o env)
      standAt p2.atName
      methodCall o name p2 p3 env ov ((e :: es).length + 0) (backTo p3 (starEach (e :: es) env)) []) := rfl
  have hm : ∀ ov, methodCall o name p2 p3 env ov ((e :: es).length + 0) (backTo p3 (starEach (e :: es) env)) [] = (do
      let (f, first) ← holding [ov] (getMethod ov name (do return (← importBound o env).getD true))
      callWith p3 f first (backTo p3 (starEach (e :: es) env)) []) := fun ov => by
    unfold methodCall methodCallPos
    rw [hf]
    simp only [hpl, Bool.not_true, Bool.false_or, if_true, pure_bind]
    rfl
  rw [h]
  simp only [hm]
section
variable {prog : Program} {w : World} {A : Around} {R : Result → Shared → Prop} {s : Shared} {K : Frag} {mg : Str → Option Value} {C fI : Addr} {c q : Str} {st : Stmt} {ps : List Str}
/-- super().__init__(..), up to the bound __init__ called -/
theorem super_init {body : List Stmt} {scope : Scope} {L x t0 cda cc : Addr} {p0 p1 p2 p3 : Pos} {es : List Expr} {e : Expr} {Q : Value → Shared → Prop} {E : Value → Shared → Prop} {fd : FuncData} {m : Str → Option Value} {ar : Arg}
    {oc : Value} {od : Option Addr} {osl : Array (Option Value)} {cl : Value} {cld : Option Addr} {csl : Array (Option Value)} {ccl : Value} {cdd : Option Addr} {vs : Array Value} {ccs : Array (Option Value)} {file : Str} {tf : Tok}
    (T : ErrTxt prog K mg C fI c q st ps) (X : K.In s.heap) (hg : s.heap.Ns mainGlobals mg) (hb : ∃ mb, s.heap.Ns builtinsNs mb ∧ ∀ x : Str, x ≠ "__name__" → mb x = bootBuiltins x) (hx : s.heap.get? x = some (excO C t0)) (hnx : K.lookup x = none)
    (hf : K.lookup fI = some ⟨oc, od, .func fd, osl⟩) (hp : (fd.params.posonlyargs ++ fd.params.args).head? = some ar) (hcell : K.lookup cc = some ⟨cl, cld, .cell (some (.ref C)), csl⟩) (hcode : K.lookup cda = some ⟨ccl, cdd, .fields vs, ccs⟩) (hvs : vs[2]? = some (.str file tf)) (hfile : ((prog.main.file : Str) == file) = true)
    (hns : s.heap.Ns L m) (hv : m ar.arg = some (.ref x))
    (hks : scope.names.lookup ("super" : Str) = some .globalImplicit) (hkc : scope.names.lookup ("__class__" : Str) = some .free) (hka : scope.names.lookup ar.arg = some .local) (hk : scope.kind = .function)
    (h : ∀ u h', (∀ b o, s.heap.get? b = some o → h'.get? b = some o) → h'.get? u = some (kxs_mw "ValueError.__init__" x) →
      wpAny (model prog w) A (spliced (backTo p3 (starEach (e :: es) (ksEnv q scope L fI (.ref cda) cc)))) (fun us s₁ => KxsAt "ValueError.__init__" u x s₁.heap ∧ wpAny (model prog w) A (call (.ref u) us) Q E s₁) E { s with heap := h', toks := s.toks + 1 })
    (hpl : (p2.endLine == p3.line) = true) (hfm : methodCallForm ((e :: es).length + 0) (backTo p3 (starEach (e :: es) (ksEnv q scope L fI (.ref cda) cc))) [] = true := by rfl)
    (he : starEach (e :: es) (ksEnv q scope L fI (.ref cda) cc) = (false, eval e (ksEnv q scope L fI (.ref cda) cc)) :: starEach es (ksEnv q scope L fI (.ref cda) cc) := by rfl) (hplain : (backTo p3 (starEach es (ksEnv q scope L fI (.ref cda) cc))).any (·.1) = false := by rfl) :
    _root_.PySem.wpAt (model prog w) A (.func body (ksEnv q scope L fI (.ref cda) cc)) (eval (.Call (.Attribute (.Call (.Name "super" p0) [] [] p1) "__init__" p2) (e :: es) [] p3) (ksEnv q scope L fI (.ref cda) cc)) Q E s := by
  obtain ⟨hh, g, d, t, os⟩ := s
  obtain ⟨nm, qn, N, bs, bm, sn, sub, ab, col, dd, k0, k1, k2, k3, k5, hC, hbm⟩ := T.cls
  have hcl : clsIn K C = some { name := nm, bases := bs, mro := .ref C :: bm, ns := N, qualname := qn, hasDict := true, slotNames := sn, subclasses := sub, abstract := ab, collection := col, hasDel := false } := by unfold clsIn; rw [hC] <;> rfl
  have hCo := X _ _ hC
  have hxC : x ≠ C := by
    rintro rfl
    rw [hnx] at hC; cases hC
  obtain ⟨mb, hb1, hb2⟩ := hb
  refine ks_wpAt_MethodCall (ks_wpAt_super_base (env := ksEnv q scope L fI (.ref cda) cc) hks hkc (by decide) rfl (X _ _ hf) rfl hp rfl (X _ _ hcode) rfl hvs hfile T.top ?_) (call_at_eq hpl hfm)
  refine ks_loadName_global hk hks (loadGlobal_builtin (env := ksEnv q scope L fI (.ref cda) cc) hg T.ms hb1 ((hb2 "super" (by decide)).trans (by first | rfl | kernel_rfl)) ⟨rfl, ?_⟩)
  refine wpAny_loadName_free hk hkc rfl ⟨_, X _ _ hcell, rfl⟩ ?_
  refine wpAny_loadName_local hk hka hns hv ?_
  refine ks_wpAny_isType_cls hCo rfl ⟨rfl, ?_⟩
  refine ks_wpAny_call_super hCo rfl hx rfl (fun _ e => by cases e) (looks_mroIn X T.own) (fun h' eso k => ?_)
  have X' : K.In h' := X.keeps k
  have hx' := k _ _ hx
  have hm := T.sup
  unfold ks_superIn at hm
  rw [hcl] at hm
  have J : InstAt h' x (excO C t0) C none := ⟨hx', rfl, rfl, trivial⟩
  refine kxs_getMethod kxs_ValueError eso (looks_opaque X' T.tp) (l₀ := .ref C :: bm) (fun A Q E s k q => wpAny_bind ((looks_clsIn X' hcl) A _ E s k (wpAny_pure q))) rfl X' hm (J.type.andThen (looks_subIn X' T.ve)) hxC (by decide) ?_
  have hh2 := h h'.objs.size (h'.push (kxs_mw "ValueError.__init__" x)) (fun b o e => Heap.get?_push_of_some _ (k b o e)) (Heap.get?_push_at rfl rfl)
  rw [he] at hh2 ⊢
  refine kxs_callWith (i := "ValueError.__init__") (x := x) (by show (false || (backTo p3 (starEach es (ksEnv q scope L fI (.ref cda) cc))).any (·.1)) = false; rw [hplain]; rfl) ?_
  exact evalArgs_plain hh2
end
end ErrX
end PySem
namespace PySem
namespace ErrX
open PySem.W PySem.Calls PyProof.Rows PySem.HandSPX
def BadNumberA (p0 p1 p2 : Pos) : Arguments := { posonlyargs := [], args := [{ arg := "self", annotation := none, pos := p0 }, { arg := "what", annotation := none, pos := p1 }, { arg := "number", annotation := none, pos := p2 }], vararg := none, kwonlyargs := [], kw_defaults := [], kwarg := none, defaults := [] }
def BadNumberB (q0 q1 q2 q3 q4 q5 q6 q7 q8 q9 q10 q11 q12 q13 q14 : Pos) : List Stmt := [.Expr (.Call (.Attribute (.Call (.Name "super" q0) [] [] q1) "__init__" q2) [.Name "what" q5, .Name "number" q6] [] q3) q4, .Assign [.Attribute (.Name "self" q7) "what" q8] (.Name "what" q9) q10, .Assign [.Attribute (.Name "self" q11) "number" q12] (.Name "number" q13) q14]
def BadNumberS : Scope := { kind := .function, names := [(PySem.Str.ofString "self", .local), (PySem.Str.ofString "what", .local), (PySem.Str.ofString "number", .local), (PySem.Str.ofString "__class__", .free), (PySem.Str.ofString "super", .globalImplicit)], isGenerator := false, isCoroutine := false, more := [] }
structure BadNumberT (P : Program) (K : Frag) (mg : Str → Option Value) (C fI : Addr) (st : Stmt) : Prop where
  t : ErrTxt P K mg C fI "BadNumber" "BadNumber.__init__" st ["what", "number"]
  a : ∃ p0 p1 p2, L2.defArgs st = BadNumberA p0 p1 p2
  b : ∃ q0 q1 q2 q3 q4 q5 q6 q7 q8 q9 q10 q11 q12 q13 q14, L2.defBody st = BadNumberB q0 q1 q2 q3 q4 q5 q6 q7 q8 q9 q10 q11 q12 q13 q14 ∧ (q2.endLine == q3.line) = true
  s : L2.defScope st = BadNumberS
section
variable {prog : Program} {w : World} {A : Around} {E : Value → Shared → Prop} {R : Result → Shared → Prop} {s : Shared} {K : Frag} {mg : Str → Option Value} {C fI : Addr} {st : Stmt}
theorem BadNumber_init (T : BadNumberT prog K mg C fI st) {x t0 : Addr} {v0 v1 : Value} (X : K.In s.heap) (hg : s.heap.Ns mainGlobals mg) (hb : ∃ mb, s.heap.Ns builtinsNs mb ∧ ∀ x : Str, x ≠ "__name__" → mb x = bootBuiltins x) (hlim : s.heap.NoLimit) (hx : s.heap.get? x = some (excO C t0)) (hnx : K.lookup x = none) (hroom : A.depth < recursionLimit)
    (hq : ∀ h' tk dx t1, InitEnd s.heap h' x C dx t1 (fun y => if y = "number" then some v1 else if y = "what" then some v0 else none) → R (.ok (.ret .none)) { s with heap := h', toks := tk }) :
    codeAny (model prog w) A (.call (.ref fI) ⟨.ref x :: [v0, v1], []⟩) R s := by
  obtain ⟨oc, od, kV, doc, pm, an, cda, cc, ct, osl, cl, cld, csl, ccl, cdd, vs, ccs, file, tf, ho, hcd, hcell, hcode, hvs, hfile⟩ := T.t.fn
  obtain ⟨nm, q, N, bs, bm, sn, sub, ab, col, dd, k0, k1, k2, k3, k5, hC, hbm⟩ := T.t.cls
  have hcl : clsIn K C = some { name := nm, bases := bs, mro := .ref C :: bm, ns := N, qualname := q, hasDict := true, slotNames := sn, subclasses := sub, abstract := ab, collection := col, hasDel := false } := by unfold clsIn; rw [hC] <;> rfl
  obtain ⟨p0, p1, p2, hA⟩ := T.a
  obtain ⟨q0, q1, q2, q3, q4, q5, q6, q7, q8, q9, q10, q11, q12, q13, q14, hB, hpl⟩ := T.b
  have hS := T.s
  rw [hA, hB, hS] at ho
  refine ks_codeAny_call_defAt (binds := [("self", .ref x), ("what", v0), ("number", v1)]) hroom (X _ _ ho) rfl hlim (codeRec_of X hcd) rfl (BindsTo.of_eq (by first | rfl | with_unfolding_all rfl)) (show ∀ x ∈ BadNumberS.names, x.2 ≠ .cell from by decide) (by
    intro y hy
    simp only [List.mem_cons, List.not_mem_nil, or_false] at hy
    rcases hy with rfl | rfl | rfl <;> rfl) (fun h₁ hns hk => ?_) rfl rfl rfl
  show _root_.PySem.wpAt _ _ (.func _ (ksEnv "BadNumber.__init__" BadNumberS s.heap.objs.size fI (.ref cda) cc)) (execs (BadNumberB q0 q1 q2 q3 q4 q5 q6 q7 q8 q9 q10 q11 q12 q13 q14) (ksEnv "BadNumber.__init__" BadNumberS s.heap.objs.size fI (.ref cda) cc)) _ _ _
  have X₁ : K.In h₁ := X.keeps hk
  have hx₁ := hk _ _ hx
  have hxL : s.heap.objs.size ≠ x := Nat.ne_of_gt (Heap.lt_size hx)
  obtain ⟨mb, hb1, hb2⟩ := hb
  refine ks_wpAt_execs_cons (ks_wpAt_Expr_any (super_init T.t X₁ (hg.keeps hk) ⟨mb, hb1.keeps hk, hb2⟩ hx₁ hnx ho rfl hcell hcode hvs hfile hns (by first | rfl | with_unfolding_all rfl | kernel_rfl) rfl rfl rfl rfl (fun u h₂ k₂ hu => ?_) hpl))
  have hn₂ := hns.keeps k₂
  refine spliced_cons (ldK (v := v0) hn₂ (by first | rfl | with_unfolding_all rfl | kernel_rfl) ?_)
  refine spliced_cons (ldK (v := v1) hn₂ (by first | rfl | with_unfolding_all rfl | kernel_rfl) ?_)
  refine spliced_nil ⟨hu, ?_⟩
  refine call_bwV (k₂ _ _ (X₁ _ _ hC)) (k₂ _ _ hx₁) hu (by rw [sizeLine_eq]; exact (by decide : 2 ≤ 16777216)) fun h₃ t1 k₃ hx₃ => ?_
  have X₃ : K.In h₃ := kept_but (X₁.keeps k₂) hnx k₃
  have keep₃ : ∀ b o, b ≠ x → s.heap.get? b = some o → h₃.get? b = some o := fun b o hb e => k₃ b o hb (k₂ b o (hk b o e))
  have hn₃ : h₃.Ns s.heap.objs.size _ := hn₂.at (fun o e => k₃ _ o hxL e)
  refine wpAt_of_wpAny ?_
  show wpAny _ _ (execs _ _) _ _ _
  refine wpAny_execs_cons (plainObj_wpAny_Assign_Attribute ?_)
  refine ldK (v := v0) hn₃ (by first | rfl | with_unfolding_all rfl | kernel_rfl) (ldK (v := .ref x) hn₃ (by first | rfl | with_unfolding_all rfl | kernel_rfl) ?_)
  refine set_plain X₃ (ox := excO C t1) (od := none) ⟨hx₃, rfl, rfl, trivial⟩ T.t.sa ?_
  refine exc_osa X₃ hx₃ hcl (show refsVE (.ref C :: bm) = true from hbm) rfl (T.t.noN _ (by decide)) (fun h₄ tk₄ dx k₄ dn dne hx₄ hd₄ => ?_)
  have hs₂ : s.heap.objs.size < h₃.objs.size := hn₃.lt
  have dL : dx ≠ s.heap.objs.size := Nat.ne_of_gt (Nat.lt_of_lt_of_le hs₂ dn)
  have keep₄ : ∀ b o, b ≠ x → s.heap.get? b = some o → h₄.get? b = some o := fun b o hb e => k₄ b o hb (keep₃ b o hb e)
  have hn₄ : h₄.Ns s.heap.objs.size _ := hn₃.at (fun o e => k₄ _ o hxL e)
  have X₄ : K.In h₄ := kept_but X₃ hnx k₄
  have hdx : K.lookup dx = none := by
    cases e : K.lookup dx with
    | none => rfl
    | some o => exact absurd (Heap.lt_size (X₃ _ _ e)) (Nat.not_lt.mpr dn)
  have sdx : s.heap.get? dx = none := by
    cases e : s.heap.get? dx with
    | none => rfl
    | some o => exact absurd (Nat.lt_trans (Heap.lt_size e) hs₂) (Nat.not_lt.mpr dn)
  have W₄ : Within (fun y => if y = "what" then some v0 else none) ["what"] := Within.cons "what" v0 Within.nil
  show wpAny _ _ (execs _ _) _ _ _
  refine wpAny_execs_cons (plainObj_wpAny_Assign_Attribute ?_)
  refine ldK (v := v1) hn₄ (by first | rfl | with_unfolding_all rfl | kernel_rfl) (ldK (v := .ref x) hn₄ (by first | rfl | with_unfolding_all rfl | kernel_rfl) ?_)
  obtain ⟨oD1, _, _, hoD1, _, _⟩ := hd₄.count W₄
  refine set_plain X₄ (ox := { cls := .ref C, dict := some dx, data := .fields _ }) (od := some oD1) ⟨hx₄, rfl, rfl, hoD1⟩ T.t.sa ?_
  refine exc_osaD X₄ hx₄ hd₄ W₄ (by decide) hcl (show refsVE (.ref C :: bm) = true from hbm) rfl (T.t.noN _ (by decide)) (fun h₅ tk₅ k₅ hd₅ => ?_)
  have keep₅ : ∀ b o, b ≠ x → s.heap.get? b = some o → h₅.get? b = some o := fun b o hb e => k₅ b o (fun z => by rw [z, sdx] at e; cases e) (keep₄ b o hb e)
  have hn₅ : h₅.Ns s.heap.objs.size _ := hn₄.at (fun o e => k₅ _ o (Ne.symm dL) e)
  have X₅ : K.In h₅ := kept_but X₄ hdx k₅
  have hx₅ := k₅ _ _ (Ne.symm dne) hx₄
  have W₅ := Within.cons "number" v1 W₄
  show wpAny _ _ (execs _ _) _ _ _
  exact wpAny_execs_nil (hq h₅ _ dx t1 ⟨keep₅, hx₅, Nat.le_of_lt (Nat.lt_of_lt_of_le hs₂ dn), dne, hd₅⟩)
theorem BadNumber_made (T : BadNumberT prog K mg C fI st) {v0 v1 : Value} (X : K.In s.heap) (hg : s.heap.Ns mainGlobals mg) (hb : ∃ mb, s.heap.Ns builtinsNs mb ∧ ∀ x : Str, x ≠ "__name__" → mb x = bootBuiltins x) (hlim : s.heap.NoLimit) (hroom : A.depth + 1 < recursionLimit)
    (hq : ∀ h' tk e d, OwnMade s.heap h' e C d (fun y => if y = "number" then some v1 else if y = "what" then some v0 else none) → R (.ok (.ret (.ref e))) { s with heap := h', toks := tk }) :
    codeAny (model prog w) A (.call (.ref C) ⟨[v0, v1], []⟩) R s := by
  obtain ⟨nm, q, N, bs, bm, sn, sub, ab, col, dd, k0, k1, k2, k3, k5, hC, hbm⟩ := T.t.cls
  obtain ⟨hp, g, dr, tk, os⟩ := s
  obtain ⟨mb, hb1, hb2⟩ := hb
  have k : ∀ b o, hp.get? b = some o → ((hp.push (kdv_tup [v0, v1])).push (excO C hp.objs.size)).get? b = some o := fun b o e => Heap.get?_push_of_some _ (Heap.get?_push_of_some _ e)
  have hget : ((hp.push (kdv_tup [v0, v1])).push (excO C hp.objs.size)).get? (hp.objs.size + 1) = some (excO C hp.objs.size) := by heap_get
  have hnx : K.lookup (hp.objs.size + 1) = none := by
    cases e : K.lookup (hp.objs.size + 1) with
    | none => rfl
    | some o =>
      have z : hp.get? (hp.objs.size + 1) = some o := X _ _ e
      exact absurd (Nat.lt_of_succ_lt (Heap.lt_size z)) (Nat.lt_irrefl _)
  refine call_own F.excBase_ValueError (fun X => refsVE_contains X bm hbm) (X _ _ hC) (looks_findIn X T.t.iC) (fun self => bind_fn X self T.t.tC) (by rw [sizeLine_eq]; exact (by decide : 2 ≤ 16777216)) ?_
  refine BadNumber_init (s := ⟨(hp.push (kdv_tup [v0, v1])).push (excO C hp.objs.size), g, dr, tk, os⟩) T (X.keeps k) (hg.keeps k) ⟨mb, hb1.keeps k, hb2⟩ (hlim.keeps k) hget hnx ?_ fun h' tk' dx t1 ⟨k', hx, dn, dne, hns⟩ => ?_
  · show A.depth + 1 < recursionLimit
    exact hroom
  · have old : ∀ b o, hp.get? b = some o → h'.get? b = some o := fun b o e => k' b o (Nat.ne_of_lt (Nat.lt_succ_of_lt (Heap.lt_size e))) (k b o e)
    have z : hp.objs.size + 1 + 1 ≤ dx := by
      first
        | (simpa only [Heap.size_push] using dn)
        | exact dn
        | (have q := dn; rw [Heap.size_push, Heap.size_push] at q; exact q)
    exact ⟨rfl, hq h' tk' (hp.objs.size + 1) dx ⟨old, Nat.le_succ _, ⟨_, _, hx, rfl, rfl, rfl, rfl⟩, Nat.le_trans (Nat.le_trans (Nat.le_succ _) (Nat.le_succ _)) z, dne, hns⟩⟩
end
end ErrX
end PySem
namespace PySem
namespace ErrX
open PySem.W PySem.Calls PyProof.Rows PySem.HandSPX
def BadRowA (p0 p1 : Pos) : Arguments := { posonlyargs := [], args := [{ arg := "self", annotation := none, pos := p0 }, { arg := "row", annotation := none, pos := p1 }], vararg := none, kwonlyargs := [], kw_defaults := [], kwarg := none, defaults := [] }
def BadRowB (q0 q1 q2 q3 q4 q5 q6 q7 q8 q9 : Pos) : List Stmt := [.Expr (.Call (.Attribute (.Call (.Name "super" q0) [] [] q1) "__init__" q2) [.Name "row" q5] [] q3) q4, .Assign [.Attribute (.Name "self" q6) "row" q7] (.Name "row" q8) q9]
def BadRowS : Scope := { kind := .function, names := [(PySem.Str.ofString "self", .local), (PySem.Str.ofString "row", .local), (PySem.Str.ofString "__class__", .free), (PySem.Str.ofString "super", .globalImplicit)], isGenerator := false, isCoroutine := false, more := [] }
structure BadRowT (P : Program) (K : Frag) (mg : Str → Option Value) (C fI : Addr) (st : Stmt) : Prop where
  t : ErrTxt P K mg C fI "BadRow" "BadRow.__init__" st ["row"]
  a : ∃ p0 p1, L2.defArgs st = BadRowA p0 p1
  b : ∃ q0 q1 q2 q3 q4 q5 q6 q7 q8 q9, L2.defBody st = BadRowB q0 q1 q2 q3 q4 q5 q6 q7 q8 q9 ∧ (q2.endLine == q3.line) = true
  s : L2.defScope st = BadRowS
section
variable {prog : Program} {w : World} {A : Around} {E : Value → Shared → Prop} {R : Result → Shared → Prop} {s : Shared} {K : Frag} {mg : Str → Option Value} {C fI : Addr} {st : Stmt}
theorem BadRow_init (T : BadRowT prog K mg C fI st) {x t0 : Addr} {v0 : Value} (X : K.In s.heap) (hg : s.heap.Ns mainGlobals mg) (hb : ∃ mb, s.heap.Ns builtinsNs mb ∧ ∀ x : Str, x ≠ "__name__" → mb x = bootBuiltins x) (hlim : s.heap.NoLimit) (hx : s.heap.get? x = some (excO C t0)) (hnx : K.lookup x = none) (hroom : A.depth < recursionLimit)
    (hq : ∀ h' tk dx t1, InitEnd s.heap h' x C dx t1 (fun y => if y = "row" then some v0 else none) → R (.ok (.ret .none)) { s with heap := h', toks := tk }) :
    codeAny (model prog w) A (.call (.ref fI) ⟨.ref x :: [v0], []⟩) R s := by
  obtain ⟨oc, od, kV, doc, pm, an, cda, cc, ct, osl, cl, cld, csl, ccl, cdd, vs, ccs, file, tf, ho, hcd, hcell, hcode, hvs, hfile⟩ := T.t.fn
  obtain ⟨nm, q, N, bs, bm, sn, sub, ab, col, dd, k0, k1, k2, k3, k5, hC, hbm⟩ := T.t.cls
  have hcl : clsIn K C = some { name := nm, bases := bs, mro := .ref C :: bm, ns := N, qualname := q, hasDict := true, slotNames := sn, subclasses := sub, abstract := ab, collection := col, hasDel := false } := by unfold clsIn; rw [hC] <;> rfl
  obtain ⟨p0, p1, hA⟩ := T.a
  obtain ⟨q0, q1, q2, q3, q4, q5, q6, q7, q8, q9, hB, hpl⟩ := T.b
  have hS := T.s
  rw [hA, hB, hS] at ho
  refine ks_codeAny_call_defAt (binds := [("self", .ref x), ("row", v0)]) hroom (X _ _ ho) rfl hlim (codeRec_of X hcd) rfl (BindsTo.of_eq (by first | rfl | with_unfolding_all rfl)) (show ∀ x ∈ BadRowS.names, x.2 ≠ .cell from by decide) (by
    intro y hy
    simp only [List.mem_cons, List.not_mem_nil, or_false] at hy
    rcases hy with rfl | rfl <;> rfl) (fun h₁ hns hk => ?_) rfl rfl rfl
  show _root_.PySem.wpAt _ _ (.func _ (ksEnv "BadRow.__init__" BadRowS s.heap.objs.size fI (.ref cda) cc)) (execs (BadRowB q0 q1 q2 q3 q4 q5 q6 q7 q8 q9) (ksEnv "BadRow.__init__" BadRowS s.heap.objs.size fI (.ref cda) cc)) _ _ _
  have X₁ : K.In h₁ := X.keeps hk
  have hx₁ := hk _ _ hx
  have hxL : s.heap.objs.size ≠ x := Nat.ne_of_gt (Heap.lt_size hx)
  obtain ⟨mb, hb1, hb2⟩ := hb
  refine ks_wpAt_execs_cons (ks_wpAt_Expr_any (super_init T.t X₁ (hg.keeps hk) ⟨mb, hb1.keeps hk, hb2⟩ hx₁ hnx ho rfl hcell hcode hvs hfile hns (by first | rfl | with_unfolding_all rfl | kernel_rfl) rfl rfl rfl rfl (fun u h₂ k₂ hu => ?_) hpl))
  have hn₂ := hns.keeps k₂
  refine spliced_cons (ldK (v := v0) hn₂ (by first | rfl | with_unfolding_all rfl | kernel_rfl) ?_)
  refine spliced_nil ⟨hu, ?_⟩
  refine call_bwV (k₂ _ _ (X₁ _ _ hC)) (k₂ _ _ hx₁) hu (by rw [sizeLine_eq]; exact (by decide : 1 ≤ 16777216)) fun h₃ t1 k₃ hx₃ => ?_
  have X₃ : K.In h₃ := kept_but (X₁.keeps k₂) hnx k₃
  have keep₃ : ∀ b o, b ≠ x → s.heap.get? b = some o → h₃.get? b = some o := fun b o hb e => k₃ b o hb (k₂ b o (hk b o e))
  have hn₃ : h₃.Ns s.heap.objs.size _ := hn₂.at (fun o e => k₃ _ o hxL e)
  refine wpAt_of_wpAny ?_
  show wpAny _ _ (execs _ _) _ _ _
  refine wpAny_execs_cons (plainObj_wpAny_Assign_Attribute ?_)
  refine ldK (v := v0) hn₃ (by first | rfl | with_unfolding_all rfl | kernel_rfl) (ldK (v := .ref x) hn₃ (by first | rfl | with_unfolding_all rfl | kernel_rfl) ?_)
  refine set_plain X₃ (ox := excO C t1) (od := none) ⟨hx₃, rfl, rfl, trivial⟩ T.t.sa ?_
  refine exc_osa X₃ hx₃ hcl (show refsVE (.ref C :: bm) = true from hbm) rfl (T.t.noN _ (by decide)) (fun h₄ tk₄ dx k₄ dn dne hx₄ hd₄ => ?_)
  have hs₂ : s.heap.objs.size < h₃.objs.size := hn₃.lt
  have dL : dx ≠ s.heap.objs.size := Nat.ne_of_gt (Nat.lt_of_lt_of_le hs₂ dn)
  have keep₄ : ∀ b o, b ≠ x → s.heap.get? b = some o → h₄.get? b = some o := fun b o hb e => k₄ b o hb (keep₃ b o hb e)
  have hn₄ : h₄.Ns s.heap.objs.size _ := hn₃.at (fun o e => k₄ _ o hxL e)
  have X₄ : K.In h₄ := kept_but X₃ hnx k₄
  have hdx : K.lookup dx = none := by
    cases e : K.lookup dx with
    | none => rfl
    | some o => exact absurd (Heap.lt_size (X₃ _ _ e)) (Nat.not_lt.mpr dn)
  have sdx : s.heap.get? dx = none := by
    cases e : s.heap.get? dx with
    | none => rfl
    | some o => exact absurd (Nat.lt_trans (Heap.lt_size e) hs₂) (Nat.not_lt.mpr dn)
  have W₄ : Within (fun y => if y = "row" then some v0 else none) ["row"] := Within.cons "row" v0 Within.nil
  show wpAny _ _ (execs _ _) _ _ _
  exact wpAny_execs_nil (hq h₄ _ dx t1 ⟨keep₄, hx₄, Nat.le_of_lt (Nat.lt_of_lt_of_le hs₂ dn), dne, hd₄⟩)
theorem BadRow_made (T : BadRowT prog K mg C fI st) {v0 : Value} (X : K.In s.heap) (hg : s.heap.Ns mainGlobals mg) (hb : ∃ mb, s.heap.Ns builtinsNs mb ∧ ∀ x : Str, x ≠ "__name__" → mb x = bootBuiltins x) (hlim : s.heap.NoLimit) (hroom : A.depth + 1 < recursionLimit)
    (hq : ∀ h' tk e d, OwnMade s.heap h' e C d (fun y => if y = "row" then some v0 else none) → R (.ok (.ret (.ref e))) { s with heap := h', toks := tk }) :
    codeAny (model prog w) A (.call (.ref C) ⟨[v0], []⟩) R s := by
  obtain ⟨nm, q, N, bs, bm, sn, sub, ab, col, dd, k0, k1, k2, k3, k5, hC, hbm⟩ := T.t.cls
  obtain ⟨hp, g, dr, tk, os⟩ := s
  obtain ⟨mb, hb1, hb2⟩ := hb
  have k : ∀ b o, hp.get? b = some o → ((hp.push (kdv_tup [v0])).push (excO C hp.objs.size)).get? b = some o := fun b o e => Heap.get?_push_of_some _ (Heap.get?_push_of_some _ e)
  have hget : ((hp.push (kdv_tup [v0])).push (excO C hp.objs.size)).get? (hp.objs.size + 1) = some (excO C hp.objs.size) := by heap_get
  have hnx : K.lookup (hp.objs.size + 1) = none := by
    cases e : K.lookup (hp.objs.size + 1) with
    | none => rfl
    | some o =>
      have z : hp.get? (hp.objs.size + 1) = some o := X _ _ e
      exact absurd (Nat.lt_of_succ_lt (Heap.lt_size z)) (Nat.lt_irrefl _)
  refine call_own F.excBase_ValueError (fun X => refsVE_contains X bm hbm) (X _ _ hC) (looks_findIn X T.t.iC) (fun self => bind_fn X self T.t.tC) (by rw [sizeLine_eq]; exact (by decide : 1 ≤ 16777216)) ?_
  refine BadRow_init (s := ⟨(hp.push (kdv_tup [v0])).push (excO C hp.objs.size), g, dr, tk, os⟩) T (X.keeps k) (hg.keeps k) ⟨mb, hb1.keeps k, hb2⟩ (hlim.keeps k) hget hnx ?_ fun h' tk' dx t1 ⟨k', hx, dn, dne, hns⟩ => ?_
  · show A.depth + 1 < recursionLimit
    exact hroom
  · have old : ∀ b o, hp.get? b = some o → h'.get? b = some o := fun b o e => k' b o (Nat.ne_of_lt (Nat.lt_succ_of_lt (Heap.lt_size e))) (k b o e)
    have z : hp.objs.size + 1 + 1 ≤ dx := by
      first
        | (simpa only [Heap.size_push] using dn)
        | exact dn
        | (have q := dn; rw [Heap.size_push, Heap.size_push] at q; exact q)
    exact ⟨rfl, hq h' tk' (hp.objs.size + 1) dx ⟨old, Nat.le_succ _, ⟨_, _, hx, rfl, rfl, rfl, rfl⟩, Nat.le_trans (Nat.le_trans (Nat.le_succ _) (Nat.le_succ _)) z, dne, hns⟩⟩
end
end ErrX
end PySem

end

section
set_option Elab.async false
set_option linter.all false
set_option maxRecDepth 100000
namespace PySem
namespace ErrX
open PySem.W PySem.Calls PyProof.Rows
/-- an own error's class, as the walk wants it -/
structure ErrFacts (P : Program) (w : World) (K : Frag) (mg : Str → Option Value) (C : Addr) (c : Str) (ps : List Str) : Prop where
  gC : mg c = some (.ref C)
  kC : keepIn K (.ref C) = true
  exC : subIn K (.ref C) (.type "BaseException") = some true
  tyC : typeIn K (.ref C) = some (.type "type")
  xf : L2.XfC K C
  noN : ∀ p ∈ ps, findIn K (.ref C) p = some none
  nd : ps.Nodup
  made : ∀ {A : Around} {R : Result → Shared → Prop} {s : Shared} (us : List Value), us.length = ps.length → K.In s.heap → s.heap.Ns mainGlobals mg → (∃ mb, s.heap.Ns builtinsNs mb ∧ ∀ x : Str, x ≠ "__name__" → mb x = bootBuiltins x) → s.heap.NoLimit → A.depth + 1 < recursionLimit →
    (∀ h' tk e d, OwnMade s.heap h' e C d (fun y => List.lookup y (ps.zip us)) → R (.ok (.ret (.ref e))) { s with heap := h', toks := tk }) → codeAny (model P w) A (.call (.ref C) ⟨us, []⟩) R s
theorem BadNumber_facts {P : Program} {w : World} {K : Frag} {mg : Str → Option Value} {C fI : Addr} {st : Stmt} (T : BadNumberT P K mg C fI st) : ErrFacts P w K mg C "BadNumber" ["what", "number"] where
  gC := T.t.gC
  kC := T.t.kC
  exC := T.t.exC
  tyC := T.t.tyC
  xf := ⟨T.t.ga, T.t.gg, T.t.exC, T.t.hdC⟩
  noN := T.t.noN
  nd := by decide
  made := fun {A R s} us hl X hg hb hlim hroom hq => by
    obtain ⟨v0, v1, rfl⟩ : ∃ v0 v1, us = [v0, v1] := by
      match us, hl with
      | [v0, v1], _ => exact ⟨_, _, rfl⟩
    refine BadNumber_made T X hg hb hlim hroom fun h' tk e d M => hq h' tk e d ?_
    have em : (fun y : Str => if y = "number" then some v1 else if y = "what" then some v0 else none) = fun y : Str => List.lookup y (List.zip ["what", "number"] [v0, v1]) := by
      funext y
      simp only [List.zip_cons_cons, List.zip_nil_right, List.lookup_cons, List.lookup_nil]
      by_cases h1 : y = "number"
      · subst h1
        rw [if_pos rfl]
        have n0 : (("number" : Str) == "what") = false := by decide +kernel
        simp only [n0, beq_self_eq_true]
      rw [if_neg h1]
      by_cases h0 : y = "what"
      · subst h0
        rw [if_pos rfl]
        simp only [beq_self_eq_true]
      rw [if_neg h0]
      have m0 : (y == ("what" : Str)) = false := by simpa using h0
      have m1 : (y == ("number" : Str)) = false := by simpa using h1
      simp only [m0, m1]
    rw [← em]
    exact M
theorem BadRow_facts {P : Program} {w : World} {K : Frag} {mg : Str → Option Value} {C fI : Addr} {st : Stmt} (T : BadRowT P K mg C fI st) : ErrFacts P w K mg C "BadRow" ["row"] where
  gC := T.t.gC
  kC := T.t.kC
  exC := T.t.exC
  tyC := T.t.tyC
  xf := ⟨T.t.ga, T.t.gg, T.t.exC, T.t.hdC⟩
  noN := T.t.noN
  nd := by decide
  made := fun {A R s} us hl X hg hb hlim hroom hq => by
    obtain ⟨v0, rfl⟩ : ∃ v0, us = [v0] := by
      match us, hl with
      | [v0], _ => exact ⟨_, rfl⟩
    refine BadRow_made T X hg hb hlim hroom fun h' tk e d M => hq h' tk e d ?_
    have em : (fun y : Str => if y = "row" then some v0 else none) = fun y : Str => List.lookup y (List.zip ["row"] [v0]) := by
      funext y
      simp only [List.zip_cons_cons, List.zip_nil_right, List.lookup_cons, List.lookup_nil]
      by_cases h0 : y = "row"
      · subst h0
        rw [if_pos rfl]
        simp only [beq_self_eq_true]
      rw [if_neg h0]
      have m0 : (y == ("row" : Str)) = false := by simpa using h0
      simp only [m0]
    rw [← em]
    exact M
end ErrX
end PySem
namespace DL
open PySem L2 RZ PyProof.Rows
theorem vals_lookup : ∀ {ps : List Str} {vs : List V} {us : List Value}, Vals vs us → ∀ f : Str, RelO (List.lookup f (ps.zip vs)) (List.lookup f (ps.zip us))
  | [], _, _, _, f => by simp [List.lookup]; trivial
  | p :: ps, _, _, .nil, f => by simp [List.lookup]; trivial
  | p :: ps, _, _, .cons r rs, f => by
    rw [List.zip_cons_cons, List.zip_cons_cons, List.lookup_cons, List.lookup_cons]
    cases f == p with
    | true => exact r
    | false => exact vals_lookup rs f
section
variable {X : Cx} {C : Addr} {c : Str} {ps : List Str}
/-- c(e, ..), an own error -/
def tMkE (C : Addr) (ps : List Str) (ta : TA) : L2.St → Hp → XK → Prop := fun σ H Q => ta σ H fun vs H1 => vs.length = ps.length ∧ ∀ d, H1 d = none → Q (.ref C) (some d) (upd H1 d (.xd (ps.zip vs)))
theorem pmk_err {e : Expr} {es : List Expr} {ta : TA} {p pos : Pos} {k : Nat} (T : PySem.ErrX.ErrFacts X.prog X.w X.K X.mg C c ps) (hr : Rg k X.A) (ha : PA X (e :: es) ta) (hg : Gl X c) (hd : (c == ("__debug__" : Str)) = false := by decide)
    (he : starEach (e :: es) X.env = (false, eval e X.env) :: starEach es X.env := by rfl) (hpl : (backTo pos (starEach es X.env)).any (·.1) = false := by rfl) :
    PMk X (.Call (.Name c p) (e :: es) [] pos) (tMkE C ps ta) := by
  intro pins s σ H Q I h
  refine wpAny_Call_Name_kw (ld_glob I hg T.gC ?_ hd)
  refine PySem.W.callWith_K (h₀ := X.base) I.ok.mod.kin T.kC (thn (ha.run pos pins s σ H _ I h) fun us s1 hh => ?_) he hpl
  obtain ⟨vs, H1, I1, r1, el, q1⟩ := hh
  refine ⟨I1.kIn, ?_⟩
  have hlim := I1.nolimit
  have hglob : s1.heap.Ns mainGlobals X.mg := by
    have := I1.mod.glob.keeps I1.bk
    exact this
  obtain ⟨mb, hb1, hb2⟩ := I1.mod.blt
  have hbl : ∃ mb, s1.heap.Ns builtinsNs mb ∧ ∀ x : Str, x ≠ "__name__" → mb x = bootBuiltins x := ⟨mb, hb1.keeps I1.bk, hb2⟩
  have kin1 := I1.kIn
  obtain ⟨hp, g, dr, tk, os⟩ := s1
  refine wpAny_call (T.made us (by rw [← r1.length]; exact el) kin1 hglob hbl hlim (by have := hr.r.dp; omega) fun h' tk' e d M => ?_)
  show MkP X pins σ Q (.ref e) ⟨h', g, dr, tk', os⟩
  obtain ⟨oe, fv, hoe, hc, hd, hdat, h1⟩ := M.obj
  have hns := M.ns
  obtain ⟨G', g1, g2⟩ := restrict h' fun b => decide (b ≠ e)
  have gk : ∀ b, b ≠ e → G'.get? b = h'.get? b := fun b hb => g1 b (decide_eq_true hb)
  have ge : G'.get? e = none := g2 e (by simp)
  have old : ∀ b o, hp.get? b = some o → G'.get? b = some o := fun b o q => (gk b (Nat.ne_of_lt (Nat.lt_of_lt_of_le (Heap.lt_size q) M.new))).trans (M.keep b o q)
  have ob : ObjOk X.prog X.w (upd H1 d (.xd (ps.zip vs))) G' d (.xd (ps.zip vs)) :=
    ⟨_, hns.at (fun o q => (gk d M.dne).trans q), fun f => vals_lookup r1 f⟩
  have J : Inv X pins σ (upd H1 d (.xd (ps.zip vs))) ⟨G', g, dr, tk', os⟩ := I1.laid (t' := tk') old M.dbig ob
  refine ⟨e, oe, fv, ⟨G', g, dr, tk', os⟩, _, .ref C, some d, rfl, J, fun b o q => ?_, ge, hoe, ⟨hc, hd⟩, hdat, h1, ?_, rfl, I1.bare, raises_own T.exC T.tyC, q1 d (I1.hok.fresh M.dbig)⟩
  · by_cases hb : b = e
    · have q' : G'.get? b = some o := q
      rw [hb, ge] at q'; cases q'
    · exact (gk b hb).symm.trans q
  · rw [upd_ne (Ne.symm M.dne)]
    exact I1.hok.fresh M.new
end
def sRaise (c : Str) (ps : List Str) (m : M (List D)) : MS := sBind m fun ds ρ => if ds.length = ps.length then .exc (.ob c ps ds) ρ else .bad
theorem zipE_fst : ∀ {ps : List Str} {vs : List V}, vs.length = ps.length → (ps.zip vs).map (·.1) = ps
  | [], [], _ => rfl
  | p :: ps, v :: vs, h => by simp [zipE_fst (ps := ps) (vs := vs) (by simpa using h)]
theorem zipE_snd : ∀ {ps : List Str} {vs : List V}, vs.length = ps.length → (ps.zip vs).map (·.2) = vs
  | [], [], _ => rfl
  | p :: ps, v :: vs, h => by simp [zipE_snd (ps := ps) (vs := vs) (by simpa using h)]
section
variable {X : Cx} {W : WX'} {mu : List Nat} {C : Addr} {c : Str} {ps : List Str} {p : Bool} {k : Nat}
theorem dS_raise {m : M (List D)} {e : Expr} {es : List Expr} {px pos pos2 : Pos} (T : PySem.ErrX.ErrFacts X.prog X.w X.K X.mg C c ps) (hc : X.calm = true) (hr : Rg k X.A) (tk : Takes X W) (hg : Gl X c) (ha : PA X (e :: es) (tVs (kx X) W p m)) (hd : (c == ("__debug__" : Str)) = false := by decide)
    (he : starEach (e :: es) X.env = (false, eval e X.env) :: starEach es X.env := by rfl) (hpl : (backTo pos (starEach es X.env)).any (·.1) = false := by rfl) :
    PS X (.Raise (some (.Call (.Name c px) (e :: es) [] pos)) none pos2) (tS (kx X) W mu (sRaise c ps m)) :=
  ps_imp (ps_raise hc tk (pmk_err T hr ha hg hd he hpl)) fun E σ H ⟨A, F, ρ, g, h⟩ => ⟨A, F, ρ, [], [], g, h.bind.imp fun ds ρ1 h vs A1 F1 H1 s1 g1 r => by
    have hl := r.length
    by_cases hn : ds.length = ps.length
    · rw [if_pos hn] at h
      have hv : vs.length = ps.length := hl.trans hn
      refine ⟨hv, fun d hd => ?_⟩
      obtain ⟨g2, f2⟩ := g1.share (.xd (ps.zip vs)) hd
      have eF : Same F1 (upd F1 d (.xd (ps.zip vs))) := f2.grow
      refine h (.ref C) (some d) σ A1 _ _ (s1.fr.trans f2) g2 ?_ fun _ _ => rfl
      exact ⟨C, rfl, T.gC, d, ps.zip vs, rfl, upd_same, zipE_fst hv, by rw [zipE_snd hv]; exact r.mono eF⟩
    · rw [if_neg hn] at h
      exact h.elim⟩
end
structure CalX (P : Program) (w : World) (K : PySem.W.Frag) (mg : Str → Option Value) (base : Heap) (k : Nat) (x : Str) (ps : List Str) (sem : Sem) : Prop where
  ex : ∃ (f : Addr) (fd : FuncData), FnG P w K mg base (L2.CX P w) k f fd ps (spX ⟨K, mg⟩ ps.length sem) ∧ mg x = some (.ref f) ∧ PySem.W.keepIn K (.ref f) = true ∧ Binds K fd ps []
structure MakX (P : Program) (w : World) (K : PySem.W.Frag) (mg : Str → Option Value) (base : Heap) (k : Nat) (c : Str) (ps : List Str) (sem : Sem) : Prop where
  ex : ∃ (C f : Addr) (fd : FuncData), Mk K C f ∧ FnG P w K mg base (L2.CX P w) k f fd ps (spX ⟨K, mg⟩ ps.length sem) ∧ mg c = some (.ref C) ∧ Binds K fd ps []
section
variable {X : Cx} {W : WX'} {x c m : Str} {p px apos pos : Pos} {e : Expr} {es : List Expr} {j k i : Nat} {ps : List Str} {sem : Sem} {as : List (Option Nat)} {ms : M (List O)}
theorem de_makeGX (C : MakX X.prog X.w X.K X.mg X.base j c ps sem) (hr : Rg k X.A) (tk : Takes X W) (hjk : j + 1 ≤ k) (hg : Gl X c) (ha : PA X (e :: es) (tAs (kx X) W as ms))
    (hn : as.length + 1 = ps.length := by rfl) (nd : (as.filterMap id).Nodup := by decide) (hdb : (c == ("__debug__" : Str)) = false := by decide) (he : starEach (e :: es) X.env = (false, eval e X.env) :: starEach es X.env := by rfl) (hpl : (backTo pos (starEach es X.env)).any (·.1) = false := by rfl) :
    PE X (.Call (.Name c p) (e :: es) [] pos) (tE (kx X) W false (mMakeX c sem as ms)) := by
  obtain ⟨C, f, fd, M, F, m, b⟩ := C.ex
  rw [← hn] at F
  exact de_makeX (fun t h => pe_makeG M F (hr.mono hjk) hg m b (fun σ => passAt tk σ) h hdb he hpl) m ha rfl nd
end
end DL

end

section
set_option Elab.async false
set_option linter.all false
set_option maxRecDepth 100000
namespace DL
open PySem PySem.Spec L2 RZ PyProof.Rows
/-- behind a suite its name is gone -/
def offE (oi : Option Nat) (D : Ends) : Ends := match oi with
  | some i => { nx := fun σ H => D.nx (σ.set i none) H, rt := D.rt, bk := fun σ H => D.bk (σ.set i none) H, ct := fun σ H => D.ct (σ.set i none) H }
  | none => D
def onE (oi : Option Nat) (a : Addr) (σ : L2.St) : L2.St := match oi with
  | some i => σ.set i (some (.ref a))
  | none => σ
/-- what the clauses wish, one behind the other -/
def wClauses (K : PySem.W.Frag) (Wout : WX) (D : Ends) : List (Value × Option Nat × (Addr → Value → Option Addr → TS)) → WX
  | [] => Wout
  | (c, oi, ts) :: r => fun cls d σ H => ∃ b, PySem.W.exmOne K cls c = some b ∧ (b = true → ∀ a, H a = none → ts a cls d (offE oi D) (onE oi a σ) H) ∧ (b = false → wClauses K Wout D r cls d σ H)
inductive Clauses (X : Cx) : List ExceptHandler → List (Value × Option Nat × (Addr → Value → Option Addr → TS)) → Prop
  | nil : Clauses X [] []
  | bare {x : Str} {c : Value} {ts : Addr → Value → Option Addr → TS} {b₀ : Stmt} {suite : List Stmt} {np pos' : Pos} {hds : List ExceptHandler} {l : List (Value × Option Nat × (Addr → Value → Option Addr → TS))} (hc : Names X x c)
      (hsu : ∀ (a : Addr) (oe : Obj) (cls : Value) (d : Option Addr) (pn : List (Addr × Obj)), Zc cls d oe → (∃ vs, oe.data = .fields vs) → PSs (X.suite a ((a, oe) :: pn)) (b₀ :: suite) (ts a cls d)) (r : Clauses X hds l) :
      Clauses X (.ExceptHandler (some (.Name x np)) none (b₀ :: suite) pos' :: hds) ((c, none, ts) :: l)
  | named {x n : Str} {i : Nat} {c : Value} {ts : Addr → Value → Option Addr → TS} {b₀ : Stmt} {suite : List Stmt} {np pos' : Pos} {hds : List ExceptHandler} {l : List (Value × Option Nat × (Addr → Value → Option Addr → TS))} (hi : X.N[i]? = some n) (hl : X.env.kindOf n = some .local) (hc : Names X x c)
      (hsu : ∀ (a : Addr) (oe : Obj) (cls : Value) (d : Option Addr) (pn : List (Addr × Obj)), Zc cls d oe → (∃ vs, oe.data = .fields vs) → PSs (X.suite a ((a, oe) :: pn)) (b₀ :: suite) (ts a cls d)) (r : Clauses X hds l) :
      Clauses X (.ExceptHandler (some (.Name x np)) (some n) (b₀ :: suite) pos' :: hds) ((c, some i, ts) :: l)
/-- the class named by a clause, looked up while the exception is at hand -/
theorem names_run {X : Cx} {x : Str} {c : Value} {a : Addr} {oe : Obj} {pn pins : List (Addr × Obj)} {σ : L2.St} {H : Hp} {s : Shared} {np : Pos} (hc : Names X x c) (S : Inv (X.suite a ((a, oe) :: pn)) pins σ H s) {Q E : Value → Shared → Prop} (q : Q c s) :
    wpAny (model X.prog X.w) (X.A.mark (some (.ref a))) (eval (.Name x np) X.env) Q E s := by
  obtain ⟨hg, hdb, hm | ⟨hm, hv, hnn⟩⟩ := hc
  · exact ld_glob (X := X.suite a ((a, oe) :: pn)) S hg hm q hdb
  · exact ld_blt (X := X.suite a ((a, oe) :: pn)) S hg hm hv q hnn hdb
section
variable {X : Cx} {body : List Stmt} {h₀ : ExceptHandler} {hds : List ExceptHandler} {l : List (Value × Option Nat × (Addr → Value → Option Addr → TS))} {pos : Pos} {tb : WX → TS} {Wout : WX}
theorem ps_try_clauses (hs : X.stack = X.env :: X.outer) (hf : X.env.frame = some X.env.locals) (hN : X.N.Nodup) (tk : Takes X Wout)
    (hb : ∀ (W : WX) (pn : List (Addr × Obj)) (xe : Value → Shared → Prop), Takes (X.tr pn xe) W → PassesOwn (model X.prog X.w) X.A X.env xe → PSs (X.tr pn xe) body (tb W))
    (hh : Clauses X (h₀ :: hds) l) : PS X (.Try body (h₀ :: hds) [] [] pos) (fun D σ H => tb (wClauses X.K Wout D l) D σ H) := by
  refine ⟨fun pins s σ H D I h => ?_⟩
  have ok := I.ok
  have hfr : X.A.frames = some (X.env :: X.outer) := by rw [ok.frames, hs]
  refine wpAny_Try_except ?_
  let xe : Value → Shared → Prop := fun e s₁ => wpAny (model X.prog X.w) X.A (noteFrame e X.env) (fun _ s₂ => wpAny (model X.prog X.w) X.A (setFlight e none) (fun _ s₃ => wpAny (model X.prog X.w) X.A (handleBy e X.env (h₀ :: hds)) (SP X pins D) X.xe s₃) X.xe s₂) X.xe s₁
  have took : Takes (X.tr (X.pn ++ pins) xe) (wClauses X.K Wout D l) := by
    intro u s' xx
    obtain ⟨a, B, sI, pins', σ', H', cls, d, rfl, J', nb, up, sky, na, os, ag, w⟩ := xx
    have J : Inv X pins σ' H' sI := J'.ofTry ok
    have sky' : Sky B (X.env :: X.outer) a (Zc cls d) X.env.locals s'.heap := by rw [← hs]; exact sky
    show wpAny (model X.prog X.w) X.A (noteFrame (.ref a) X.env) _ _ _
    refine Sky.land Zc.steady hfr hf sky' fun h3 fl3 up3 => ?_
    have land : ∀ {h4 : Heap}, B.StaysIn h4 → sI.heap.UpToSlots h4 → Inv X pins σ' H' { s' with heap := h4 } := fun k u => J.landed nb k u os ag
    have far : ∀ {h : Heap} {o : Obj} {vs : Array Value}, h.FunFrames B (X.env :: X.outer) → h.get? a = some o → o.data = .fields vs → a ∉ frs (X.env :: X.outer) := fun ff e dd hm => by
      obtain ⟨_, o', e', hnf⟩ := ff.mem hm
      rw [e] at e'; cases e'
      exact hnf _ dd
    obtain ⟨oe3, vs3, he3, hz3, hd3⟩ := fl3.there
    have J3 := land fl3.1 (up.trans up3)
    have nfr := far fl3.2.2.1 he3 hd3
    have nL : a ≠ X.env.locals := fun z => nfr (List.mem_filterMap.mpr ⟨X.env, List.mem_cons_self, by rw [hf, z]⟩)
    have nF : a ∉ X.fs := fun hm => by
      obtain ⟨e, he, q⟩ := List.mem_filterMap.mp hm
      exact nfr (List.mem_filterMap.mpr ⟨e, List.mem_cons_of_mem _ he, q⟩)
    have S3 := J3.suite he3 hd3 na nL nF
    have LT : PySem.W.Looks (model X.prog X.w) h3 (typeOf (.ref a)) cls := fun A Q E s k q => wpAny_typeOf_ref (k _ _ he3) (by rw [hz3.1]; exact q)
    have go : ∀ {hds' : List ExceptHandler} {l' : List (Value × Option Nat × (Addr → Value → Option Addr → TS))}, Clauses X hds' l' → wClauses X.K Wout D l' cls d σ' H' →
        wpAny (model X.prog X.w) X.A (handleBy (.ref a) X.env hds') (SP X pins D) X.xe { s' with heap := h3 } := by
      intro hds' l' hk
      induction hk with
      | nil =>
        intro w
        refine wpAny_handleBy_nil ?_
        have up' := fl3
        obtain ⟨-, -, -, oe, vs, T, oT, ts', he, hz, hd, h1, hr⟩ := fl3
        unfold PySem.passOn
        refine wpAny_bind (wpAny_field he hd h1 ?_)
        rw [if_neg (by simp)]
        have fin : wpAny (model X.prog X.w) X.A (setFlight (.ref a) X.env.frame) (fun _ s4 => wpAny (model X.prog X.w) X.A (throw (.ref a) : PySem.Sem Flow) (SP X pins D) X.xe s4) X.xe { s' with heap := h3 } := by
          rw [hf]
          exact HandSPX.setFlight_upZ up' fun h4 hh4 up4 => wpAny_throw (tk _ _ ⟨a, B, sI, pins, σ', H', cls, d, rfl, J, nb, (up.trans up3).trans up4, .inr (.inr (by rw [hs]; exact hh4)), na, os, ag, w⟩)
        first
          | exact wpAny_bind (wpAny_pure (wpAny_bind fin))
          | exact wpAny_bind fin
      | bare hc hsu r ih =>
        intro w
        obtain ⟨b, hb1, hyes, hno⟩ := w
        have LM := PySem.W.exm_one (M := model X.prog X.w) (J3.kIn) LT hb1
        refine wpAny_handleBy_cons (codeAny_handlers_test (names_run hc S3 (LM.here ?_))) (by intro q; cases q)
        cases b with
        | false => exact ih (hno rfl)
        | true =>
          refine codeAny_handlers_suite (HandSPX.lands_againZ fl3 fun h4 fl4 up4 => ?_)
          obtain ⟨oe4, vs4, he4, hz4, hd4⟩ := fl4.there
          have S4 := (land fl4.1 ((up.trans up3).trans up4)).suite he4 hd4 na nL nF
          refine wpAny_mono ((hsu a oe4 cls d (X.pn ++ pins) hz4 ⟨_, hd4⟩).run [] _ _ H' _ S4 (hyes rfl a na)) (fun f s6 hsp => ?_) fun _ _ z => z.elim
          cases f with
          | next => obtain ⟨σ6, H6, S6, q6⟩ := hsp; exact ⟨σ6, H6, S6.unsuite ok, q6⟩
          | brk => obtain ⟨σ6, H6, S6, q6⟩ := hsp; exact ⟨σ6, H6, S6.unsuite ok, q6⟩
          | cont => obtain ⟨σ6, H6, S6, q6⟩ := hsp; exact ⟨σ6, H6, S6.unsuite ok, q6⟩
          | ret u => obtain ⟨v6, σ6, H6, S6, r6, q6⟩ := hsp; exact ⟨v6, σ6, H6, S6.unsuite ok, r6, q6⟩
      | @named x n i c ts b₀ suite np pos' hds2 l2 hi hl hc hsu r ih =>
        intro w
        obtain ⟨b, hb1, hyes, hno⟩ := w
        have LM := PySem.W.exm_one (M := model X.prog X.w) (J3.kIn) LT hb1
        refine wpAny_handleBy_cons (codeAny_handlers_test (names_run hc S3 (LM.here ?_))) (by intro q; cases q)
        cases b with
        | false => exact ih (hno rfl)
        | true =>
          refine codeAny_handlers_suite_as (HandSPX.lands_againZ fl3 fun h4 fl4 up4 => ?_)
          obtain ⟨oe4, vs4, he4, hz4, hd4⟩ := fl4.there
          have S4 := (land fl4.1 ((up.trans up3).trans up4)).suite he4 hd4 na nL nF
          refine store_ok (X := X.suite a ((a, oe4) :: (X.pn ++ pins))) (v := .ref a) S4 hN hi (.inl hl) rfl (fun s5 S5 => ?_) (.inr hl)
          refine wpAny_mono ((hsu a oe4 cls d (X.pn ++ pins) hz4 ⟨_, hd4⟩).run [] s5 _ H' _ S5 (hyes rfl a na)) (fun f s6 hsp => ?_) fun _ _ z => z.elim
          cases f with
          | next => obtain ⟨σ6, H6, S6, q6⟩ := hsp; exact gone_ok (S6.unsuite ok) hN hi hl fun s7 J7 => ⟨_, _, J7, q6⟩
          | brk => obtain ⟨σ6, H6, S6, q6⟩ := hsp; exact gone_ok (S6.unsuite ok) hN hi hl fun s7 J7 => ⟨_, _, J7, q6⟩
          | cont => obtain ⟨σ6, H6, S6, q6⟩ := hsp; exact gone_ok (S6.unsuite ok) hN hi hl fun s7 J7 => ⟨_, _, J7, q6⟩
          | ret u => obtain ⟨v6, σ6, H6, S6, r6, q6⟩ := hsp; exact gone_ok (S6.unsuite ok) hN hi hl fun s7 J7 => ⟨_, _, _, J7, r6, q6⟩
    exact go hh w
  refine wpAny_mono ((hb _ (X.pn ++ pins) xe took PassesOwn.looking).run [] s σ H D (I.toTry _) h) (fun f s1 hsp => ?_) fun e s1 he => he
  cases f with
  | next => obtain ⟨σ', H', J', q⟩ := hsp; exact wpAny_execs_nil ⟨σ', H', J'.ofTry ok, q⟩
  | brk => obtain ⟨σ', H', J', q⟩ := hsp; exact ⟨σ', H', J'.ofTry ok, q⟩
  | cont => obtain ⟨σ', H', J', q⟩ := hsp; exact ⟨σ', H', J'.ofTry ok, q⟩
  | ret u => obtain ⟨v, σ', H', J', r, q⟩ := hsp; exact ⟨v, σ', H', J'.ofTry ok, r, q⟩
end
end DL

end

section
set_option Elab.async false
set_option linter.all false
set_option maxRecDepth 100000
namespace DL
open PySem PySem.Spec L2 RZ PyProof.Rows
/-- what a handler tells of its error -/
inductive ExF where
  | str (x : Str) | fld (f : Str) | rep (f : Str)
/-- what u's repr is -/
def Shown (K : PySem.W.Frag) (H : Hp) (u : V) (x : Str) : Prop := ∃ p, DpR K H u p ∧ showOk p = true ∧ x = p.shown
def ItemV (K : PySem.W.Frag) (H : Hp) (fs : List (Str × V)) : ExF → V → Prop
  | .str x, v => v = .str x
  | .fld f, v => fs.lookup f = some v
  | .rep f, v => ∃ u x, fs.lookup f = some u ∧ Shown K H u x ∧ v = .str x
inductive ItemsV (K : PySem.W.Frag) (H : Hp) (fs : List (Str × V)) : List ExF → List V → Prop
  | nil : ItemsV K H fs [] []
  | cons {i : ExF} {is : List ExF} {v : V} {vs : List V} : ItemV K H fs i v → ItemsV K H fs is vs → ItemsV K H fs (i :: is) (v :: vs)
/-- how it is written, n the error's name -/
inductive XiE (n : Str) : Expr → ExF → Prop
  | str {x : Str} {j : Nat} {p : Pos} : XiE n (.Constant (.str x) j p) (.str x)
  | fld {f : Str} {p1 p2 : Pos} : XiE n (.Attribute (.Name n p1) f p2) (.fld f)
  | rep {f : Str} {p1 p2 p3 p4 : Pos} : XiE n (.Call (.Name "repr" p1) [.Attribute (.Name n p2) f p3] [] p4) (.rep f)
inductive XiEs (n : Str) : List Expr → List ExF → Prop
  | nil : XiEs n [] []
  | cons {e : Expr} {es : List Expr} {i : ExF} {is : List ExF} : XiE n e i → XiEs n es is → XiEs n (e :: es) (i :: is)
/-- one except clause: the class c, at C; what it tells -/
structure HRow where
  c : Str
  C : Addr
  is : List ExF
def flds : List ExF → List Str
  | [] => []
  | .str _ :: r => flds r
  | .fld f :: r => f :: flds r
  | .rep f :: r => f :: flds r
section
variable {X : Cx} {a : Addr} {oe : Obj} {cls : Value} {d : Option Addr} {pn : List (Addr × Obj)} {C : Addr} {n : Str} {i : Nat}
/-- an item in the suite -/
def tItem (K : PySem.W.Frag) (a : Addr) (cls : Value) (d : Option Addr) (C : Addr) (i : Nat) (it : ExF) : TE := fun σ H Q => σ[i]? = some (some (.ref a)) ∧ cls = .ref C ∧ ∃ dd fs v, d = some dd ∧ H dd = some (.xd fs) ∧ ItemV K H fs it v ∧ Q v H
theorem pe_item {e : Expr} {it : ExF} (h : XiE n e it) (T : XfC X.K C) (hno : ∀ f ∈ flds [it], PySem.W.findIn X.K (.ref C) f = some none) (hz : Zc cls d oe) (hf : ∃ vs, oe.data = .fields vs) (hN : X.N[i]? = some n) (hv : Vis X.env.scope n) (hu : X.A.units + 110 < cLine) (hg : X.A.guards = some [])
    (hrg : Gl X "repr") (hrm : X.mg "repr" = none) (hd : (n == ("__debug__" : Str)) = false := by decide) (hcd : (n == ("__classdict__" : Str)) = false := by decide) : PE (X.suite a ((a, oe) :: pn)) e (tItem X.K a cls d C i it) := by
  have fld : ∀ {f : Str} {p1 p2 : Pos}, PySem.W.findIn X.K (.ref C) f = some none → PE (X.suite a ((a, oe) :: pn)) (.Attribute (.Name n p1) f p2) (tXf a cls d C f (tVar i)) := fun {f p1 p2} hno => pe_xf (X := X) T hno hz hf (pe_var (X := X.suite a ((a, oe) :: pn)) (pos := p1) (i := i) hN hv hd hcd) (by rfl)
  cases h with
  | str => exact pe_imp pe_str fun σ H Q ⟨_, _, dd, fs, v, _, _, e, q⟩ => by cases e; exact q
  | fld => exact pe_imp (fld (hno _ (by simp [flds]))) fun σ H Q ⟨e1, e2, dd, fs, v, e3, e4, e5, q⟩ => ⟨.ref a, e1, rfl, e2, dd, fs, v, e3, e4, e5, q⟩
  | rep =>
    exact pe_imp (pe_callB (X := X.suite a ((a, oe) :: pn)) (cr_reprU (X := X.suite a ((a, oe) :: pn)) hu hg) hrg hrm PyProof.Rows.boot_repr (pa_cons (fld (hno _ (by simp [flds]))) pa_nil)) fun σ H Q ⟨e1, e2, dd, fs, v, e3, e4, ⟨u, x, e5, ⟨p, e6, e8, e9⟩, e7⟩, q⟩ =>
      ⟨.ref a, e1, rfl, e2, dd, fs, u, e3, e4, e5, u, p, rfl, e6, e8, by rw [e7, e9] at q; exact q⟩
def tItems (K : PySem.W.Frag) (a : Addr) (cls : Value) (d : Option Addr) (C : Addr) (i : Nat) (is : List ExF) : TA := fun σ H Q => σ[i]? = some (some (.ref a)) ∧ cls = .ref C ∧ ∃ dd fs vs, d = some dd ∧ H dd = some (.xd fs) ∧ ItemsV K H fs is vs ∧ Q vs H
theorem pa_items (T : XfC X.K C) (hz : Zc cls d oe) (hf : ∃ vs, oe.data = .fields vs) (hN : X.N[i]? = some n) (hv : Vis X.env.scope n) (hu : X.A.units + 110 < cLine) (hg : X.A.guards = some [])
    (hrg : Gl X "repr") (hrm : X.mg "repr" = none) (hd : (n == ("__debug__" : Str)) = false := by decide) (hcd : (n == ("__classdict__" : Str)) = false := by decide) :
    ∀ {es : List Expr} {is : List ExF}, XiEs n es is → (∀ f ∈ flds is, PySem.W.findIn X.K (.ref C) f = some none) → PA (X.suite a ((a, oe) :: pn)) es (tItems X.K a cls d C i is) := by
  intro es is h
  induction h with
  | nil => exact fun _ => pa_imp pa_nil fun σ H Q ⟨_, _, dd, fs, vs, _, _, e, q⟩ => by cases e; exact q
  | @cons e es it is h1 h2 ih =>
    intro hno
    have st : starEach (e :: es) (X.suite a ((a, oe) :: pn)).env = (false, eval e (X.suite a ((a, oe) :: pn)).env) :: starEach es (X.suite a ((a, oe) :: pn)).env := by cases h1 <;> rfl
    refine pa_imp (pa_cons (pe_item h1 T (fun f hf => hno f ?_) hz hf hN hv hu hg hrg hrm hd hcd) (ih fun f hf => hno f ?_) st) fun σ H Q ⟨e1, e2, dd, fs, vs, e3, e4, e5, q⟩ => ?_
    · cases it <;> simp [flds] at hf ⊢ <;> exact .inl hf
    · cases it <;> simp [flds] <;> first | exact hf | exact .inr hf
    · cases e5 with
      | cons k1 k2 => exact ⟨e1, e2, dd, fs, _, e3, e4, k1, e1, e2, dd, fs, _, e3, e4, k2, q⟩
/-- return (..), in the suite; nothing is asked where the slots are not those of the def -/
def tRetI (K : PySem.W.Frag) (N : Nat) (C : Addr) (i : Nat) (is : List ExF) : Addr → Value → Option Addr → TS := fun a cls d D σ H => σ.length = N → σ[i]? = some (some (.ref a)) ∧ cls = .ref C ∧ ∃ dd fs vs, d = some dd ∧ H dd = some (.xd fs) ∧ ItemsV K H fs is vs ∧ vs.length ≤ sizeLine ∧ ∀ p, H p = none → D.rt (.ref p) (upd H p (.tup vs))
theorem pss_retI {es : List Expr} {is : List ExF} {k : Nat} {p1 p2 : Pos} (h : XiEs n es is) (T : XfC X.K C) (hno : ∀ f ∈ flds is, PySem.W.findIn X.K (.ref C) f = some none) (hz : Zc cls d oe) (hf : ∃ vs, oe.data = .fields vs) (hN : X.N[i]? = some n) (hv : Vis X.env.scope n) (hu : X.A.units + 110 < cLine) (hg : X.A.guards = some [])
    (hrg : Gl X "repr") (hrm : X.mg "repr" = none) (hd : (n == ("__debug__" : Str)) = false := by decide) (hcd : (n == ("__classdict__" : Str)) = false := by decide) :
    PSs (X.suite a ((a, oe) :: pn)) [.Return (some (.Tuple es k p1)) p2] (tRetI X.K X.N.length C i is a cls d) := by
  have hp := pss_one (ps_ret (pos := p2) (pe_tup (x1 := k) (pos := p1) (pa_items (a := a) (pn := pn) T hz hf hN hv hu hg hrg hrm hd hcd h hno)))
  refine ⟨fun pins s σ H D I q => hp.run pins s σ H D I ?_⟩
  obtain ⟨e1, e2, dd, fs, vs, e3, e4, e5, e6, e7⟩ := q I.len
  exact ⟨e1, e2, dd, fs, vs, e3, e4, e5, e6, fun p hp => e7 p hp⟩
end
end DL

end

section
set_option Elab.async false
set_option linter.all false
set_option maxRecDepth 100000
namespace DL
open PySem PySem.Spec L2 RZ PyProof.Rows
inductive HdAst (n : Str) : List ExceptHandler → List HRow → Prop
  | nil : HdAst n [] []
  | cons {c : Str} {C : Addr} {es : List Expr} {is : List ExF} {k : Nat} {p1 p2 np pos : Pos} {hds : List ExceptHandler} {rs : List HRow} : XiEs n es is → HdAst n hds rs →
      HdAst n (.ExceptHandler (some (.Name c np)) (some n) [.Return (some (.Tuple es k p1)) p2] pos :: hds) (⟨c, C, is⟩ :: rs)
/-- what is written of the classes that the clauses name -/
structure RowsOk (K : PySem.W.Frag) (mg : Str → Option Value) (rs : List HRow) : Prop where
  gC : ∀ r ∈ rs, mg r.c = some (.ref r.C)
  xf : ∀ r ∈ rs, XfC K r.C
  no : ∀ r ∈ rs, ∀ f ∈ flds r.is, PySem.W.findIn K (.ref r.C) f = some none
  ex : ∀ r ∈ rs, ∀ q ∈ rs, PySem.W.exmOne K (.ref r.C) (.ref q.C) = some (decide (r.c = q.c))
  dj : ∀ r ∈ rs, ∀ q ∈ rs, r.c = q.c → r = q
def rowT (K : PySem.W.Frag) (N i : Nat) (r : HRow) : Value × Option Nat × (Addr → Value → Option Addr → TS) := (.ref r.C, some i, tRetI K N r.C i r.is)
theorem clauses_of {Y : Cx} {n : Str} {i : Nat} (hN : Y.N[i]? = some n) (hl : Y.env.kindOf n = some .local) (hv : Vis Y.env.scope n) (hu : Y.A.units + 110 < cLine) (hg : Y.A.guards = some []) (hrg : Gl Y "repr") (hrm : Y.mg "repr" = none)
    (hd : (n == ("__debug__" : Str)) = false) (hcd : (n == ("__classdict__" : Str)) = false) : ∀ {hds : List ExceptHandler} {rs : List HRow}, HdAst n hds rs → (∀ r ∈ rs, Names Y r.c (.ref r.C)) → (∀ r ∈ rs, XfC Y.K r.C) → (∀ r ∈ rs, ∀ f ∈ flds r.is, PySem.W.findIn Y.K (.ref r.C) f = some none) →
      Clauses Y hds (rs.map (rowT Y.K Y.N.length i)) := by
  intro hds rs h
  induction h with
  | nil => exact fun _ _ _ => .nil
  | cons h1 h2 ih =>
    intro a1 a2 a3
    exact .named hN hl (a1 _ List.mem_cons_self) (fun a oe cls d pn hz hf => pss_retI h1 (a2 _ List.mem_cons_self) (a3 _ List.mem_cons_self) hz hf hN hv hu hg hrg hrm hd hcd)
      (ih (fun r hr => a1 r (List.mem_cons_of_mem _ hr)) (fun r hr => a2 r (List.mem_cons_of_mem _ hr)) fun r hr => a3 r (List.mem_cons_of_mem _ hr))
/-- an error of a clause's class meets it -/
def HitQ (K : PySem.W.Frag) (r : HRow) (Q : VK) : XK := fun cls d H => cls = .ref r.C ∧ ∃ dd fs vs, d = some dd ∧ H dd = some (.xd fs) ∧ ItemsV K H fs r.is vs ∧ vs.length ≤ sizeLine ∧ ∀ p, H p = none → Q (.ref p) (upd H p (.tup vs))
theorem hit_clause {K : PySem.W.Frag} {mg : Str → Option Value} {N i : Nat} {D : Ends} {all : List HRow} (R : RowsOk K mg all) (hi : i < N) {r : HRow} {cls : Value} {d : Option Addr} {σ : L2.St} {H : Hp} (h : HitQ K r D.rt cls d H) :
    ∀ rs : List HRow, (∀ q ∈ rs, q ∈ all) → r ∈ rs → r ∈ all → wClauses K (fun _ _ _ _ => False) D (rs.map (rowT K N i)) cls d σ H
  | [], _, hr, _ => by simp at hr
  | q :: rs, hs, hr, ha => by
    obtain ⟨rfl, dd, fs, vs, h2, h3, h4, h5, h6⟩ := id h
    refine ⟨decide (r.c = q.c), R.ex r ha q (hs q List.mem_cons_self), fun hb a _ => ?_, fun hb => ?_⟩
    · have e := R.dj r ha q (hs q List.mem_cons_self) (of_decide_eq_true hb)
      subst e
      intro hl
      have hl : (σ.set i (some (.ref a))).length = N := hl
      rw [List.length_set] at hl
      exact ⟨by show (σ.set i (some (.ref a)))[i]? = _; rw [List.getElem?_set_self (by omega)], rfl, dd, fs, vs, h2, h3, h4, h5, h6⟩
    · have n : r ≠ q := fun e => by rw [e] at hb; simp at hb
      exact hit_clause R hi h rs (fun q hq => hs q (List.mem_cons_of_mem _ hq)) ((List.mem_cons.mp hr).resolve_left n) ha
/-- what _law_why makes of its lambda -/
def TTwhy (K : PySem.W.Frag) (rs : List HRow) : (XK → Hp → VK → Prop) → Hp → VK → Prop := fun tl H Q =>
  tl (fun cls d H' => ∃ r ∈ rs, HitQ K r Q cls d H') H fun _ H' => Q .non H'
theorem why_gives {X : Cx} {Ng : List Str} {x a n q : Str} {sg : Scope} {g : Addr} {cdg : Value} {i j : Nat} {p1 p2 p3 p4 p5 p6 : Pos} {h0 : ExceptHandler} {hds : List ExceptHandler} {rs : List HRow} {k : Nat} (hr : Rg (k + 1) X.A) (hnd : Ng.Nodup) (hi : Ng[i]? = some n) (hl : sg.names.lookup n = some .local)
    (hv : Vis sg n) (hrg : sg.names.lookup ("repr" : Str) = some .globalImplicit) (hrm : X.mg "repr" = none) (ha : HdAst n (h0 :: hds) rs) (hgl : ∀ r ∈ rs, sg.names.lookup r.c = some .globalImplicit ∧ (r.c == ("__debug__" : Str)) = false) (R : RowsOk X.K X.mg rs) (h0' : ∀ f : Addr, (L2.start Ng [V.ref f])[0]? = some (some (V.ref f)))
    (hsw : ∀ {xx : Cx}, swapsWith (.Call (.Name a p1) [] [] p2) none p3.line xx.env = pure false := by intro _; rfl) (hd : (n == ("__debug__" : Str)) = false := by decide) (hcd : (n == ("__classdict__" : Str)) = false := by decide) :
    LamX.GivesTo X Ng x sg g cdg [.Try [.Expr (.Call (.Name a p1) [] [] p2) p3] (h0 :: hds) [] [] p4, .Return (some (.Constant .none j p5)) p6] a q (TTwhy X.K rs) := by
  intro f c' s H Q tl act hc h
  let Y : Cx := (cxOf C8.CX0 X.prog X.w X.K X.mg X.base Ng x sg g cdg X.A X.stack s H C8.E0).nox
  have hA : Y.A = X.A.deeper (envOfC x sg s.heap.objs.size g cdg) := rfl
  have hr' : Rg k Y.A := hr.deeper _
  have hu : Y.A.units + 110 < cLine := by have := hr'.r.un; omega
  have il : i < Y.N.length := (List.getElem?_eq_some_iff.mp hi).1
  have cl : Clauses Y (h0 :: hds) (rs.map (rowT Y.K Y.N.length i)) := clauses_of (Y := Y) hi hl hv hu hr'.g hrg hrm hd hcd ha (fun r hr => ⟨(hgl r hr).1, (hgl r hr).2, .inl (R.gC r hr)⟩) R.xf R.no
  refine ⟨_, pss_cons (ps_try_clauses (X := Y) (Wout := fun _ _ _ _ => False)
      (tb := fun W D σ H => ∃ Ech : XK, (∀ cls d σ' H', Ech cls d H' → W cls d σ' H') ∧ σ[0]? = some (some (.ref f)) ∧ H c' = some (LamX.CodeO c' q) ∧ tl Ech H fun _ H' => D.nx σ H') rfl rfl hnd LamX.takes0 (fun W pn xe tk _ => ?_) cl) (pss_one (ps_ret pe_non)), ?_⟩
  · refine ⟨fun pins s' σ H' D I h' => ?_⟩
    obtain ⟨Ech, hW, h1, h2, h3⟩ := h'
    have hp := act W pn xe Ech p1 p2 tk hW
    have hq := pss_one (ps_expr (pos := p3) hp hsw)
    exact hq.run pins s' σ H' D I ⟨h1, h2, h3⟩
  · refine ⟨fun cls d H' => ∃ r ∈ rs, HitQ X.K r Q cls d H', fun cls d σ' H' ⟨r, hr, h1⟩ => ?_, h0' f, hc, h⟩
    exact hit_clause (mg := X.mg) (D := { nx := _, rt := Q, bk := _, ct := _ }) R il h1 rs (fun _ z => z) hr hr
def reprS (d : D) : Option D := match reprD d with
  | some (.fd (.sh (.str x))) => some (.str x)
  | _ => none
def whyItems (ns : List Str) (ds : List D) : List ExF → Option (List D)
  | [] => some []
  | .str x :: r => match whyItems ns ds r with
    | some l => some (.str x :: l)
    | none => none
  | .fld f :: r => match lookD ns ds f, whyItems ns ds r with
    | some d, some l => some (d :: l)
    | _, _ => none
  | .rep f :: r => match (lookD ns ds f).bind reprS, whyItems ns ds r with
    | some d, some l => some (d :: l)
    | _, _ => none
def whyRow (rs : List (Str × List ExF)) (c : Str) : Option (List ExF) := rs.lookup c
def whyD (rs : List (Str × List ExF)) : D → Option D
  | .ob c ns ds => match whyRow rs c with
    | some is => match whyItems ns ds is with
      | some l => if l.length ≤ lim then some (.tup l) else none
      | none => none
    | none => none
  | _ => none
def mWhy (rs : List (Str × List ExF)) (m : M O) : M O := fun ρ => match m ρ with
  | .ok _ ρ' => .ok (.sh .non) ρ'
  | .exc e ρ' => match whyD rs e with
    | some d => .ok (.sh d) ρ'
    | none => .bad
  | .bad => .bad
theorem lookD_reps {κ : Kx} {F : Hp} {f : Str} {d : D} : ∀ {fs : List (Str × V)} {ds : List D}, Reps κ F (fs.map (·.2)) ds → lookD (fs.map (·.1)) ds f = some d → ∃ v, fs.lookup f = some v ∧ Rep κ F v d
  | [], ds, r, e => by cases ds <;> simp [lookD] at e
  | (g, v) :: fs, ds, r, e => by
    cases r with
    | cons r1 r2 =>
      simp only [List.map_cons, lookD] at e
      rw [List.lookup_cons]
      by_cases h : f = g
      · rw [if_pos h] at e
        cases e
        have : (f == g) = true := by simpa using h
        rw [this]
        exact ⟨_, rfl, r1⟩
      · rw [if_neg h] at e
        have : (f == g) = false := by simpa using h
        rw [this]
        exact lookD_reps r2 e
theorem reprS_of {κ : Kx} {F H : Hp} {u : V} {d e : D} (r : Rep κ F u d) (eH : Same F H) (h : reprS d = some e) : ∃ x, e = .str x ∧ Shown κ.K H u x := by
  unfold reprS reprD at h
  cases ep : toPyR d with
  | none => rw [ep] at h; cases h
  | some p =>
    rw [ep] at h
    by_cases ho : showOk p = true
    · simp only [if_pos ho] at h
      cases h
      exact ⟨_, rfl, p, (r.mono eH).dpR ep, ho, rfl⟩
    · simp only [if_neg ho] at h
      cases h
theorem whyItems_of {κ : Kx} {F H : Hp} {fs : List (Str × V)} {ds : List D} (r : Reps κ F (fs.map (·.2)) ds) (eH : Same F H) : ∀ {is : List ExF} {l : List D}, whyItems (fs.map (·.1)) ds is = some l → ∃ vs, ItemsV κ.K H fs is vs ∧ Reps κ F vs l
  | [], l, e => by cases e; exact ⟨[], .nil, .nil⟩
  | .str x :: is, l, e => by
    unfold whyItems at e
    split at e
    · rename_i l' e'
      cases e
      obtain ⟨vs, h1, h2⟩ := whyItems_of r eH e'
      exact ⟨.str x :: vs, .cons rfl h1, .cons (.str x) h2⟩
    · cases e
  | .fld f :: is, l, e => by
    unfold whyItems at e
    split at e
    · rename_i d l' e1 e'
      cases e
      obtain ⟨vs, h1, h2⟩ := whyItems_of r eH e'
      obtain ⟨v, h3, h4⟩ := lookD_reps r e1
      exact ⟨v :: vs, .cons h3 h1, .cons h4 h2⟩
    · cases e
  | .rep f :: is, l, e => by
    unfold whyItems at e
    split at e
    · rename_i d l' e1 e'
      cases e
      obtain ⟨vs, h1, h2⟩ := whyItems_of r eH e'
      obtain ⟨d0, e2, e3⟩ := Option.bind_eq_some_iff.mp e1
      obtain ⟨u, h3, h4⟩ := lookD_reps r e2
      obtain ⟨x, rfl, h5⟩ := reprS_of h4 eH e3
      exact ⟨.str x :: vs, .cons ⟨u, x, h3, h5, rfl⟩ h1, .cons (.str x) h2⟩
    · cases e
/-- the tables grow: all else stands -/
theorem G.ext {κ : Kx} {A : Fp} {F H H1 : Hp} {ρ : Env} {σ : L2.St} {τ : List O} {υ : List V} (g : G κ A F H ρ σ τ υ) (e : LamX.ExtN H H1) (t : LamX.Tabs (tabsOf κ.K) H1) : G κ A F H1 ρ σ τ υ ∧ Fr A F H A F H1 := by
  have own : ∀ x b, b ∈ A x → ∃ o, H b = some o ∧ NotT o = true ∧ H1 b = some o := fun x b hb => by
    obtain ⟨o, h1, h2⟩ := g.ft x b hb
    exact ⟨o, h1, h2, e b o h1 (NotT.nt h2)⟩
  have hT : ∀ P q, TabG F H P q → (P, q) ∈ tabsOf κ.K → TabG F H1 P q := fun P q t1 hm => by
    obtain ⟨ps, h1, h2, h3⟩ := t (P, q) hm
    exact ⟨t1.1, ps, h1, h2, h3⟩
  refine ⟨⟨g.len, g.lent, fun x o eo => ?_, g.nd, g.dj, g.ff, fun x b hb => ?_, fun b o h => ?_, ⟨fun p hp => hT _ _ (g.tab.at_ p hp) hp, g.tab.noF⟩⟩, ⟨fun b o h n _ => e b o h n, fun b h o eo => ?_, fun x b hb => .inl ⟨x, hb⟩, Same.refl _, fun b h => .inl h⟩⟩
  · obtain ⟨v, h1, h2⟩ := g.own x o eo
    refine ⟨v, h1, h2.mono (Same.refl _) fun b hb u eu => ?_⟩
    obtain ⟨o', e1, e2, e3⟩ := own x b hb
    rw [eu] at e1; cases e1
    exact e3
  · obtain ⟨o, _, h2, h3⟩ := own x b hb
    exact ⟨o, h3, h2⟩
  · exact e b o (g.fh b o h) fun ps z => g.tab.noF b ps (by rw [h, z])
  · cases o with
    | tbl ps => exact ⟨ps, rfl⟩
    | _ =>
      have := e b _ eo (by intro ps z; cases z)
      exact h _ this
section
variable {X : Cx} {W : WX'} {p : Bool}
theorem tLam_why {rs : List HRow} {m : M O} {σ : L2.St} {H : Hp} {Q : VK} (R : RowsOk X.K X.mg rs) (h : tE (kx X) W false (mWhy (rs.map fun r => (r.c, r.is)) m) σ H Q) :
    LamX.tLam (tabsOf X.K) (TTwhy X.K rs) (fun E => tE (kx X) (fun cls d _ H => E cls d H) p m) σ H Q := by
  obtain ⟨A, F, ρ, τ, υ, g, h⟩ := h
  refine ⟨fun q hq => ?_, fun H1 e t => ?_⟩
  · obtain ⟨_, ps, h1, h2, h3⟩ := g.tab.at_ q hq
    exact ⟨ps, h1, h2, h3⟩
  obtain ⟨g1, f1⟩ := g.ext e t
  refine ⟨A, F, ρ, τ, υ, g1, ?_⟩
  unfold mWhy at h
  cases em : m ρ with
  | bad => rw [em] at h; exact h.elim
  | ok r ρ' =>
    rw [em] at h
    intro v A' F' H' s g'
    obtain ⟨g2, _, f2⟩ := g'.pop
    obtain ⟨g3, f3⟩ := g2.pushSh .non
    exact h .non _ F' H' (.no ((f1.trans s.fr).trans (f2.trans f3))) g3
  | exc x ρ' =>
    rw [em] at h
    intro cls d A' F' H' f' g' hx
    cases ew : whyD (rs.map fun r => (r.c, r.is)) x with
    | none => simp only [ew] at h; exact h.elim
    | some dd =>
      simp only [ew] at h
      cases x with
      | ob c ns ds =>
        obtain ⟨C, rfl, hm, a, fs, rfl, h3, rfl, h5⟩ := hx
        unfold whyD whyRow at ew
        cases el : (rs.map fun r => (r.c, r.is)).lookup c with
        | none => simp only [el] at ew; cases ew
        | some is =>
          simp only [el] at ew
          cases ei : whyItems (fs.map (·.1)) ds is with
          | none => simp only [ei] at ew; cases ew
          | some l =>
            simp only [ei] at ew
            split at ew
            · rename_i hl
              cases ew
              have hr : ∃ r ∈ rs, r.c = c ∧ r.is = is := by
                clear ei hl h R
                induction rs with
                | nil => cases el
                | cons r rs ih =>
                  rw [List.map_cons, List.lookup_cons] at el
                  cases hc : c == r.c with
                  | true =>
                    rw [hc] at el
                    cases el
                    exact ⟨r, List.mem_cons_self, (by simpa using hc : c = r.c).symm, rfl⟩
                  | false =>
                    rw [hc] at el
                    obtain ⟨r', h1, h2⟩ := ih el
                    exact ⟨r', List.mem_cons_of_mem _ h1, h2⟩
              obtain ⟨r, hr, rfl, rfl⟩ := hr
              have hC := R.gC r hr
              have hm : X.mg r.c = some (.ref C) := hm
              rw [hC] at hm
              cases hm
              obtain ⟨vs, k1, k2⟩ := whyItems_of h5 g'.fh ei
              refine ⟨r, hr, rfl, a, fs, vs, rfl, g'.fh _ _ h3, k1, by rw [k2.length, ← lim_eq]; exact hl, fun q hq => ?_⟩
              obtain ⟨A3, F3, s3, g3⟩ := fin_tup g' hq k2
              exact h (.ref q) A3 F3 _ (.no ((f1.trans f').trans s3.fr)) g3
            · cases ew
      | _ => exact hx.elim
end
end DL

end

section
set_option Elab.async false
set_option linter.all false
set_option maxRecDepth 100000
namespace DL
open PySem PySem.Spec L2 RZ PyProof.Rows
/-- what is tracked at the head -/
def headH (K : PySem.W.Frag) (a : Addr) (o : Obj) (vs : List V) (ts : List Addr) : Hp := fun b =>
  if b = a ∧ (K.lookup a).isNone = true then some (.frz o (.lst vs)) else if b ∈ ts then some (.tbl #[]) else none
theorem headH_of {K : PySem.W.Frag} {a b : Addr} {o : Obj} {vs : List V} {ts : List Addr} {u : HO} (h : headH K a o vs ts b = some u) : (b = a ∧ (K.lookup a).isNone = true ∧ u = .frz o (.lst vs)) ∨ (b ∈ ts ∧ u = .tbl #[]) := by
  unfold headH at h
  split at h
  · rename_i e; cases h; exact .inl ⟨e.1, e.2, rfl⟩
  · split at h
    · rename_i e; cases h; exact .inr ⟨e, rfl⟩
    · cases h
section
variable {P : Program} {w : World} {K : PySem.W.Frag} {mg mb : Str → Option Value} {CX : CXT} {k : Nat} {fa a : Addr} {cs : List (Addr × Addr)} {fd : FuncData} {x : Str} {sp : Sp} {s₁ : Shared} {vs : List Value} {ns : List Int}
theorem law_callGT (KX : K.In s₁.heap) (hns : s₁.heap.Ns mainGlobals mg) (hb : s₁.heap.Ns builtinsNs mb) (hbb : ∀ x : Str, x ≠ "__name__" → mb x = bootBuiltins x) (hlim : s₁.heap.NoLimit) (hg : s₁.gens = #[])
    (hT : ∀ p ∈ cs, s₁.heap.get? p.2 = some { cls := .none, data := .fields #[] }) (nT : ∀ p ∈ cs, K.lookup p.2 = none) (C : ∀ p ∈ cs, PySem.W.CodeHd s₁.heap p.1 p.2)
    (hbm : ∃ (bm : Addr) (ob : Obj), mg "__builtins__" = some (.ref bm) ∧ bm ≠ builtinsNs ∧ s₁.heap.get? bm = some ob ∧ ob.cls = .type "module" ∧ ob.dict = some builtinsNs ∧ ob.data = .plain)
    (ha : s₁.heap.get? a = some { cls := .type "list", data := .seq vs.toArray }) (hi : IntsAre vs ns) (hl : ns.length ≤ sizeLine) (hr : Rg k callerA)
    (F : ∀ base : Heap, K.In base → base.Ns mainGlobals mg → (∀ p ∈ cs, LamX.TabB base mg p.1 p.2) → FnG P w K mg base CX k fa fd [x] sp) (hbind : ∀ (s : Shared) (u : Value), BindsTo s fd ⟨[u], []⟩ [(x, u)])
    (hsp : ∀ H : Hp, (∀ p ∈ cs, H p.2 = some (.tbl #[])) → SqL K H a (ns.map V.int) → sp [.ref a] H (fun v _ => v = .bl true) fun _ _ _ => False)
    (hCX : ∀ H e s', CX [] H s₁ (fun _ _ _ => False) e s' → False) :
    codeAny (model P w) callerA (.call (.ref fa) ⟨[.ref a], []⟩) (fun r s' => r = .ok (.ret (.bool true)) ∧ OldK s₁.heap s'.heap ∧ s'.os = s₁.os ∧ AllBare s'.gens) s₁ := by
  have rv := vals_ints hi
  have lenV := hi.length
  let ts := cs.map (·.2)
  let H := headH K a { cls := .type "list", data := .seq vs.toArray } (ns.map V.int) ts
  have memT : ∀ p ∈ cs, p.2 ∈ ts := fun p hp => List.mem_map.mpr ⟨p, hp, rfl⟩
  have isT : ∀ b, b ∈ ts → s₁.heap.get? b = some { cls := .none, data := .fields #[] } ∧ K.lookup b = none := fun b hb => by
    obtain ⟨p, hp, rfl⟩ := List.mem_map.mp hb
    exact ⟨hT p hp, nT p hp⟩
  have aT : a ∉ ts := fun z => by
    have q := (isT a z).1
    rw [ha] at q
    cases congrArg Obj.data (Option.some.inj q)
  have tT : ∀ b, b ∈ ts → H b = some (.tbl #[]) := fun b hb => by
    show (if b = a ∧ _ then _ else _) = _
    rw [if_neg (fun z : b = a ∧ (K.lookup a).isNone = true => aT (z.1 ▸ hb)), if_pos hb]
  have hS : SqL K H a (ns.map V.int) := by
    cases hk : K.lookup a with
    | some o =>
      have e := KX a o hk
      rw [ha] at e
      cases e
      exact .inr ⟨_, vs.toArray, _, hk, rfl, rfl, rfl, by rw [List.size_toArray, lenV]; exact hl, by simpa using rv⟩
    | none => exact .inl (.inr ⟨{ cls := .type "list", data := .seq vs.toArray }, if_pos ⟨rfl, by rw [hk]; rfl⟩⟩)
  have hok : HOk P w H s₁.heap := fun b u e => by
    rcases headH_of e with ⟨rfl, _, rfl⟩ | ⟨hb, rfl⟩
    · exact ⟨ha, by rw [List.length_map]; exact hl, vs, _, rv, ha⟩
    · exact (isT b hb).1
  -- what is untracked stands in the base
  have off : ∀ {b : Addr} {o : Obj}, s₁.heap.get? b = some o → (∀ us n, o.data ≠ .seq us n) → o.data ≠ .fields #[] → H b = none := fun {b o} e h1 h2 => by
    cases q : H b with
    | none => rfl
    | some u =>
      rcases headH_of q with ⟨rfl, _, _⟩ | ⟨hb, _⟩
      · rw [ha] at e; cases e; exact (h1 _ _ rfl).elim
      · rw [(isT b hb).1] at e; cases e; exact (h2 rfl).elim
  have nsK : ∀ {b : Addr} {m : Str → Option Value}, s₁.heap.Ns b m → (hidT s₁.heap H).Ns b m := fun {b m} ⟨o, es, ep, e, d, r⟩ => ⟨o, es, ep, hidT_get e (off e (fun us n z => by rw [d] at z; cases z) fun z => by rw [d] at z; cases z), d, r⟩
  have hKb : K.In (hidT s₁.heap H) := fun b o e => hidT_get (KX b o e) (by
    cases q : H b with
    | none => rfl
    | some u =>
      rcases headH_of q with ⟨rfl, hn, _⟩ | ⟨hb, _⟩
      · rw [e] at hn; cases hn
      · rw [(isT b hb).2] at e; cases e)
  have hM : L2.Mod K mg (hidT s₁.heap H) := ⟨hKb, nsK hns, ⟨mb, nsK hb, hbb⟩, let ⟨mc, h1, h2⟩ := hlim; ⟨mc, nsK h1, h2⟩⟩
  have TB : ∀ p ∈ cs, LamX.TabB (hidT s₁.heap H) mg p.1 p.2 := fun p hp => by
    have hTp := hT p hp
    obtain ⟨o, us, file, tf, flags, tg, inF, text, tt, e1, r1, r2, r3, rs⟩ := C p hp
    obtain ⟨bm, ob, b1, b2, b3, b4, b5, b6⟩ := hbm
    obtain ⟨og, es, ep, eg, hd, _⟩ := hns
    refine ⟨⟨o, us, file, tf, flags, tg, inF, text, tt, hidT_get e1 (off e1 (fun us n z => by rw [r2] at z; cases z) fun z => by rw [r2] at z; cases z; simp at r3), r1, r2, r3, rs⟩, ⟨bm, ob, b1, b2, fun q => ?_, fun q => ?_, hidT_get b3 (off b3 (fun us n z => by rw [b6] at z; cases z) fun z => by rw [b6] at z; cases z), b4, b5, b6⟩, fun z => ?_⟩
    · rw [q, eg] at b3; cases b3; rw [hd] at b6; cases b6
    · rw [q, hTp] at b3; cases b3; cases b6
    · rw [z, hTp] at eg; cases eg; cases hd
  have e0 : Env0 P w K mg (hidT s₁.heap H) callerA [] s₁ H := ⟨rfl, hM, fun b o e => of_hidT e, Nat.le_of_eq (hidT_size _ _), trivial, fun b hb => absurd (show b ∈ ([] : List Addr) from hb) (by simp), hok, .of_eq hg⟩
  refine codeAny_mono ((F _ hKb (nsK hns) TB).run callerA [] s₁ H ⟨[.ref a], []⟩ [.ref a] [.ref a] _ _ hr e0 (hbind s₁ (.ref a)) (.cons rfl .nil) (hsp H (fun p hp => tT _ (memT p hp)) hS)) fun r s' h => ?_
  cases r with
  | error e => exact (hCX H e s' h).elim
  | ok fl =>
    cases fl with
    | next => exact False.elim h
    | brk => exact False.elim h
    | cont => exact False.elim h
    | ret u =>
      obtain ⟨v, H', os, bare, un, hok', r', q⟩ := h
      have q' : v = .bl true := q
      subst q'
      obtain rfl : u = Value.bool true := r'
      have key : ∀ b o, b ∉ ts → s₁.heap.get? b = some o → s'.heap.get? b = some o := fun b o nb e => by
        cases q : H b with
        | none => exact un.keep b o e q (by intro z; exact absurd (show b ∈ ([] : List Addr) from z) (by simp)) (by simp)
        | some u =>
          rcases headH_of q with ⟨rfl, _, rfl⟩ | ⟨hb, _⟩
          · obtain ⟨e2, _⟩ := hok' b _ (un.frzs b _ _ q)
            rw [ha] at e; cases e
            exact e2
          · exact absurd hb nb
      have grown : ∀ p ∈ cs, ∃ more : Array Value, s'.heap.get? p.2 = some { cls := .none, data := .fields more } := fun p hp => by
        obtain ⟨more, z⟩ := un.tbls p.2 #[] (tT _ (memT p hp))
        exact ⟨_, hok' p.2 _ z⟩
      refine ⟨rfl, ⟨fun b o e => ?_, fun b o e => ?_⟩, os, bare⟩
      · by_cases hb : b ∈ ts
        · obtain ⟨p, hp, rfl⟩ := List.mem_map.mp hb
          obtain ⟨more, hm⟩ := grown p hp
          rw [hT p hp] at e
          cases e
          exact .inr (.inl ⟨((C p hp).tab (hT p hp)).isCodeTable, rfl, #[], more, rfl, by rw [Array.empty_append]; exact hm⟩)
        · exact .inl (key b o hb e)
      · by_cases hb : b ∈ ts
        · obtain ⟨p, hp, rfl⟩ := List.mem_map.mp hb
          obtain ⟨more, hm⟩ := grown p hp
          exact ⟨_, hm⟩
        · exact ⟨o, key b o hb e⟩
end
/-- what is known of the law at the head's heap -/
def LawGT (l : PySem.W.OpenLaw) (w : World) (K : PySem.W.Frag) (CX : CXT) (k n : Nat) (x : Str) (mg : Str → Option Value) (fa : Addr) (h : Heap) : Prop :=
  ∃ (fd : FuncData) (cs : List (Addr × Addr)) (sp : Sp), (∀ p ∈ cs, h.get? p.2 = some { cls := .none, data := .fields #[] }) ∧ (∀ p ∈ cs, K.lookup p.2 = none) ∧ (∀ p ∈ cs, PySem.W.CodeHd h p.1 p.2) ∧ (∀ (s : Shared) (u : Value), BindsTo s fd ⟨[u], []⟩ [(x, u)]) ∧
    (∀ (H : Hp) (a : Addr) (ns : List Int), ns.length ≤ n → (∀ p ∈ cs, H p.2 = some (.tbl #[])) → SqL K H a (ns.map V.int) → sp [.ref a] H (fun v _ => v = .bl true) fun _ _ _ => False) ∧
    ∀ base : Heap, K.In base → base.Ns mainGlobals mg → (∀ p ∈ cs, LamX.TabB base mg p.1 p.2) → FnG l.prog w K mg base CX k fa fd [x] sp
/-- the tables of some defs are empty at the head -/
def TabsE (K : PySem.W.Frag) (mg : Str → Option Value) (h : Heap) (fs : List Str) : Prop := ∀ f ∈ fs, ∀ (fa c P : Addr) (o : Obj) (fd : FuncData) (e : Value) (dd : Option Addr) (vs : Array Value) (sl : Array (Option Value)), mg f = some (.ref fa) → K.lookup fa = some o → o.data = .func fd → fd.code = .ref c →
  K.lookup c = some ⟨e, dd, .fields vs, sl⟩ → vs[11]? = some (.ref P) → h.get? P = some { cls := .none, data := .fields #[] }
theorem walk_ofGT {l : PySem.W.OpenLaw} {n k : Nat} {q : Program} {loose : List Str} {XP : (Str → Option Value) → Heap → Prop} {YP : World → Heap → Prop} {d : DefRec} {K : Params → PySem.W.Frag} {CX : World → CXT} {x : Str} {fs : List Str}
    (hn : l.most = some n) (hn2 : n ≤ sizeLine) (hdf : d.params.defaults = []) (hr : Rg k callerA) (hrec : ∀ f ∈ fs, ((recsOf q).any fun e => e.name == f) = true) (hY : ∀ (w : World) (h : Heap), YP w h → (K w.params).In h)
    (F : ∀ (w : World) (mg : Str → Option Value) (fa : Addr) (h : Heap), YP w h → (K w.params).In h → h.Ns mainGlobals mg → mg d.name = some (.ref fa) → TabsE (K w.params) mg h fs → LawGT l w (K w.params) (CX w) k n x mg fa h)
    (hCX : ∀ (w : World) (H : Hp) (s : Shared) (e : Value) (s' : Shared), CX w [] H s (fun _ _ _ => False) e s' → False) :
    PySem.W.WalkO q loose XP YP l.row.toRowW d [] (fun f vs => PySem.call f vs) := by
  refine Att.attach_callB hn hdf fun w s₀ s₁ mg mb fa o pm cd doc a vs ns G Y ho hd hcd hmg hobj hints hlen hbits hg => ?_
  have KX := hY w _ Y
  have own : TabsE (K w.params) mg s₁.heap fs := fun f hf fa c P o1 fd1 e dd vs1 sl k0 k1 k2 k3 k4 k5 => by
    obtain ⟨dL, hm, hn1⟩ := List.any_eq_true.mp (hrec f hf)
    have hn2 : dL.name = f := beq_iff_eq.mp hn1
    obtain ⟨a', o', fd', c', P', h1, h2, h3, h4, h5, h6⟩ := G.T.tab dL hm
    rw [hn2, k0] at h1
    cases h1
    rw [KX _ _ k1] at h2
    cases h2
    rw [k2] at h3
    cases h3
    rw [k3] at h4
    cases h4
    obtain ⟨⟨oc, vc, e1, _, e3, e4⟩, hP⟩ := h6
    rw [KX _ _ k4] at e1
    cases e1
    cases e3
    rw [k5] at e4
    cases e4
    exact hP
  obtain ⟨fd, cs, sp, hT, nT, C, hb, hsp, hF⟩ := F w mg fa _ Y KX G.T.g hmg own
  exact law_callGT KX G.T.g G.T.b G.T.builtins G.T.nolimit hg hT nT C G.T.bmain hobj hints (Nat.le_trans hlen hn2) hr hF hb (fun H hH hS => hsp H a ns hlen hH hS) fun H e s' => hCX w H s₁ e s'
end DL

end

section
set_option Elab.async false
set_option linter.all false
set_option maxRecDepth 100000
namespace DL
open PySem PySem.Spec L2 RZ LamX PyProof.Rows
/-- the lambda's own run -/
theorem lam_run {X : Cx} {pins : List (Addr × Obj)} {σ : L2.St} {H H1 : Hp} {s s1 : Shared} {A : Around} {outer : List PySem.Env} {E : XK} {scope : Scope} {f c' : Addr} {k : Nat} {params : Arguments} {body : Expr} {pm ctv : Value} {tb : TE} {Q : VK}
    (I : Inv X pins σ H s) (L : LamS X.env.scope scope) (e0 : Env0 X.prog X.w X.K X.mg X.base A outer s1 H1) (hr : Rg (k + 1) A) (un : Un (frs X.stack) [] H H1 s.heap s1.heap) (lim : s1.heap.NoLimit)
    (of1 : s1.heap.get? f = some (PySem.W.kla_obj "<lambda>" (X.env.qual ++ "<lambda>") params body scope (cloFrom X.env.cells scope.names []) pm c' ctv)) (hc : H1 c' = some (CodeO c' (X.env.qual ++ "<lambda>"))) (hok : HOk X.prog X.w H1 s1.heap)
    (hbind : bindArgs (PySem.W.kla_fn "<lambda>" (X.env.qual ++ "<lambda>") params body scope (cloFrom X.env.cells scope.names []) pm (.ref c') ctv) ⟨[], []⟩ = pure [])
    (hbody : PE (lamCx X A outer s1 H1 E scope f c') body tb) (ht : tb σ H1 Q) :
    codeAny (model X.prog X.w) A (.call (.ref f) ⟨[], []⟩) (CR (L2.CX X.prog X.w) outer X.prog X.w H1 s1 Q E) s1 := by
  obtain ⟨⟨oc, vs, t, hoc, hdc, hvc⟩, _, _⟩ := hok c' _ hc
  refine PySem.W.kla_callFunE hr.r.depth of1 rfl L.co L.gen rfl ⟨c', oc, vs, t, rfl, hoc, hdc, hvc⟩ ?_
  rw [hbind]
  refine wpAny_pure (wpAny_newFunctionEnv (fun y hy => (L.own y hy).2) (fun y hy => absurd hy (by simp)) (fun h₁ hns hsb => ⟨lim.fresh _ hsb, ?_⟩) L.kind)
  have kp : ∀ b o, s1.heap.get? b = some o → h₁.get? b = some o := fun b o e => hsb.extBut b o (Nat.ne_of_lt (Heap.lt_size e)) (Heap.get?_push_of_some _ e)
  have J : Inv (lamCx X A outer s1 H1 E scope f c') [] σ H1 { s1 with heap := h₁, toks := s1.toks + ([] : List (Str × Value)).length } := lam_start2 I L e0 hr.r.hd un hns kp
  show codeAny _ _ (.expr body (lamEnv X scope s1.heap.objs.size f c')) _ _
  exact PySem.W.kla_codeExpr (wpAny_mono (hbody.run [] _ _ H1 Q J ht) (fun v s' ⟨w', H', J', rv, q⟩ => ⟨w', H', J'.os, J'.bare, J'.base, J'.hok, rv, q⟩) fun e s' hq => hq)
/-- x(lambda: body), what x makes of it told by TT -/
theorem pe_lamG {X : Cx} {T : List (Addr × Str)} {TT : (XK → Hp → VK → Prop) → Hp → VK → Prop} {x a : Str} {g c P : Addr} {k : Nat} {pg : Arguments} {bg : List Stmt} {sg : Scope} {dV kV doc pm cdv ct oc : Value} {an od : Option Addr} {osl : Array (Option Value)} {Ng : List Str}
    {params : Arguments} {body : Expr} {scope : Scope} {t : XK → TE} {p lpos pos : Pos} (hg : Gl X x) (hm : X.mg x = some (.ref g)) (hk : PySem.W.keepIn X.K (.ref g) = true)
    (lk : X.K.lookup g = some ⟨oc, od, .func (PySem.W.fnOf x x pg bg sg dV kV doc pm an cdv ct), osl⟩) (hcg : PySem.W.codeIn X.K cdv x = true) (hb : L2.Binds X.K (PySem.W.fnOf x x pg bg sg dV kV doc pm an cdv ct) [a] []) (Sg : FnScope Ng [a] sg) (hNg : Ng[0]? = some a) (hva : Vis sg a)
    (hG : GivesTo X Ng x sg g cdv bg a (X.env.qual ++ "<lambda>") TT)
    (TB : TabB X.base X.mg c P) (hcode : X.env.code = .ref c) (hmT : (P, X.env.qual ++ "<lambda>") ∈ T) (hu : ∀ p ∈ T, p.1 = P → p.2 = X.env.qual ++ "<lambda>") (hr : Rg (k + 3) X.A) (L : LamS X.env.scope scope) (hdef : defaultsOf params X.env = ([], []))
    (hbind : ∀ (q : Str) (cl : List (Str × Addr)) (pm cv ctv : Value), bindArgs (PySem.W.kla_fn "<lambda>" q params body scope cl pm cv ctv) ⟨[], []⟩ = pure [])
    (hbody : ∀ (A : Around) (outer : List PySem.Env) (s : Shared) (H : Hp) (E : XK) (f c' : Addr), Rg k (A.deeper (lamEnv X scope s.heap.objs.size f c')) → PE (lamCx X A outer s H E scope f c') body (t E))
    (hdb : (x == ("__debug__" : Str)) = false := by decide) (hd : (a == ("__debug__" : Str)) = false := by decide) (hcd : (a == ("__classdict__" : Str)) = false := by decide) :
    PE X (.Call (.Name x p) [.Lambda params body scope lpos] [] pos) (tLam T TT t) := by
  refine ⟨fun pins s σ H Q I h => ?_⟩
  obtain ⟨hT, h⟩ := h
  refine wpAny_Call_Name_kw (ld_glob I hg hm ?_ hdb)
  refine PySem.W.callWith_K (h₀ := X.base) I.ok.mod.kin hk ?_ (by rfl) (by rfl)
  show wpAny _ _ (spliced ((false, eval (.Lambda params body scope lpos) X.env) :: backTo pos (starEach [] X.env))) _ _ s
  refine Calls.spliced_cons (lam_make2 I TB hcode hmT hu hT hdef (L.has I.ok) fun f c' pm' ctv H1 s' I1 eN T1 hf hfn hfr hco => ?_)
  refine Calls.spliced_nil ⟨I1.kIn, ?_⟩
  have act : ∀ (W : WX) (pn : List (Addr × Obj)) (xe : Value → Shared → Prop) (E : XK) (p1 p2 : Pos), Takes ((cxOf C8.CX0 X.prog X.w X.K X.mg X.base Ng x sg g cdv X.A X.stack s' H1 C8.E0).tr pn xe) W → (∀ cls d σ' H', E cls d H' → W cls d σ' H') →
      PE ((cxOf C8.CX0 X.prog X.w X.K X.mg X.base Ng x sg g cdv X.A X.stack s' H1 C8.E0).tr pn xe) (.Call (.Name a p1) [] [] p2) (fun σZ HZ Q => σZ[0]? = some (some (.ref f)) ∧ HZ c' = some (CodeO c' (X.env.qual ++ "<lambda>")) ∧ t E σ HZ Q) := by
    intro W pn xe E p1 p2 tk hW
    refine ⟨fun pinsZ sZ σZ HZ Q IZ ⟨hs, hc, ht⟩ => ?_⟩
    refine wpAny_Call_Name_kw (thn ((pe_var (pos := p1) (i := 0) hNg hva hd hcd).run pinsZ sZ σZ HZ (fun v H1 => v = .ref f ∧ H1 = HZ) IZ ⟨.ref f, hs, rfl, rfl⟩) fun u s1 ⟨v, H2, I2, r1, q1⟩ => ?_)
    obtain ⟨ev, eH⟩ := q1
    subst ev
    rw [eH] at I2
    obtain rfl : u = Value.ref f := r1
    have of1 := I2.base.keep f _ hf hfn hfr (fun z => nomatch (show f ∈ ([] : List Addr) from z))
    refine PySem.W.callWith_F0 ⟨_, _, _, _, of1⟩ ?_
    have hrZ : Rg (k + 2) (X.A.deeper (envOfC x sg s'.heap.objs.size g cdv)) := hr.deeper _
    have rl : codeAny (model X.prog X.w) (X.A.deeper (envOfC x sg s'.heap.objs.size g cdv)) (.call (.ref f) ⟨[], []⟩) (CR (L2.CX X.prog X.w) (envOfC x sg s'.heap.objs.size g cdv :: X.stack) X.prog X.w HZ s1 Q E) s1 :=
      lam_run (X := X) (k := k + 1) (E := E) I1 L I2.env0 hrZ I2.base I2.nolimit of1 hc I2.hok (hbind _ _ _ _ _) (hbody _ _ _ _ _ _ _ (Rg.mono (hrZ.deeper _) (by omega))) ht
    refine wpAny_call (codeAny_mono rl fun r s2 hq => ?_)
    cases r with
    | error e => exact passes_call tk hW pinsZ σZ HZ s1 e s2 I2 hq
    | ok fl =>
      cases fl with
      | ret u => exact I2.after hq
      | next => exact False.elim hq
      | brk => exact False.elim hq
      | cont => exact False.elim hq
  have rc : codeAny (model X.prog X.w) X.A (.call (.ref g) ⟨[.ref f], []⟩) (CR C8.CX0 X.stack X.prog X.w H1 s' Q C8.E0) s' := by
    refine run_ofS (k := k + 2) (N := Ng) (ps := [a]) (us := [.ref f]) (vs := [.ref f]) lk hcg Sg hr.r I1.env0 (hb s' [.ref f] I1.kIn rfl) (.cons rfl .nil) rfl fun hr' => ?_
    obtain ⟨t', ht', hq'⟩ := hG f c' s' H1 Q (fun E H' Q' => t E σ H' Q') act hco (h H1 eN T1)
    exact ⟨t', ht'.nox, hq'⟩
  refine wpAny_call (codeAny_mono rc fun r s2 hq => ?_)
  cases r with
  | error e => exact (show False from hq).elim
  | ok fl =>
    cases fl with
    | ret u => exact I1.after hq
    | next => exact False.elim hq
    | brk => exact False.elim hq
    | cont => exact False.elim hq
/-- the def that the lambdas are handed to -/
structure WhyG (P : Program) (w : World) (K : PySem.W.Frag) (mg : Str → Option Value) (x a : Str) (st : Stmt) (Ng : List Str) (n : Str) (i : Nat) (rs : List HRow) : Prop where
  ex : ∃ (g : Addr) (oc : Value) (od : Option Addr) (kV doc pm : Value) (an : Option Addr) (cdv ct : Value) (osl : Array (Option Value)), mg x = some (.ref g) ∧ PySem.W.keepIn K (.ref g) = true ∧
    K.lookup g = some ⟨oc, od, .func (PySem.W.fnOf x x (defArgs st) (defBody st) (defScope st) .none kV doc pm an cdv ct), osl⟩ ∧ PySem.W.codeIn K cdv x = true ∧ L2.Binds K (PySem.W.fnOf x x (defArgs st) (defBody st) (defScope st) .none kV doc pm an cdv ct) [a] []
  sc : FnScope Ng [a] (defScope st)
  v0 : Ng[0]? = some a
  va : Vis (defScope st) a
  bd : ∃ (p1 p2 p3 p4 p5 p6 : Pos) (j : Nat) (h0 : ExceptHandler) (hds : List ExceptHandler), defBody st = [.Try [.Expr (.Call (.Name a p1) [] [] p2) p3] (h0 :: hds) [] [] p4, .Return (some (.Constant .none j p5)) p6] ∧ HdAst n (h0 :: hds) rs
  hi : Ng[i]? = some n
  hl : (defScope st).names.lookup n = some .local
  hv : Vis (defScope st) n
  rg : (defScope st).names.lookup ("repr" : Str) = some .globalImplicit
  rm : mg "repr" = none
  gl : ∀ r ∈ rs, (defScope st).names.lookup r.c = some .globalImplicit ∧ (r.c == ("__debug__" : Str)) = false
  rs : RowsOk K mg rs
  dn : (n == ("__debug__" : Str)) = false ∧ (n == ("__classdict__" : Str)) = false ∧ (a == ("__debug__" : Str)) = false ∧ (a == ("__classdict__" : Str)) = false ∧ (x == ("__debug__" : Str)) = false
/-- the def in which the lambdas stand: its code object and its table -/
structure LamG (base : Heap) (K : PySem.W.Frag) (mg : Str → Option Value) (c P : Addr) (q : Str) : Prop where
  tb : TabB base mg c P
  mem : (P, q) ∈ tabsOf K
  un : ∀ p ∈ tabsOf K, p.1 = P → p.2 = q
section
variable {X : Cx} {W : WX'} {x a n : Str} {st : Stmt} {Ng : List Str} {i k : Nat} {rs : List HRow} {c P : Addr} {params : Arguments} {body : Expr} {scope : Scope} {m : M O} {pb : Bool} {p lpos pos : Pos}
theorem dE_why (C : WhyG X.prog X.w X.K X.mg x a st Ng n i rs) (hr : Rg (k + 3) X.A) (hg : Gl X x) (LG : LamG X.base X.K X.mg c P (X.env.qual ++ "<lambda>")) (hcode : X.env.code = .ref c) (L : LamS X.env.scope scope) (hdef : defaultsOf params X.env = ([], []))
    (hbind : ∀ (q : Str) (cl : List (Str × Addr)) (pm cv ctv : Value), bindArgs (PySem.W.kla_fn "<lambda>" q params body scope cl pm cv ctv) ⟨[], []⟩ = pure [])
    (hbody : ∀ (A : Around) (outer : List PySem.Env) (s : Shared) (H : Hp) (E : XK) (f c' : Addr), Rg k (A.deeper (lamEnv X scope s.heap.objs.size f c')) → PE (lamCx X A outer s H E scope f c') body (tE (kx X) (fun cls d _ H => E cls d H) pb m)) :
    PE X (.Call (.Name x p) [.Lambda params body scope lpos] [] pos) (tE (kx X) W false (mWhy (rs.map fun r => (r.c, r.is)) m)) := by
  obtain ⟨g, oc, od, kV, doc, pm, an, cdv, ct, osl, hm, hk, lk, hcg, hb⟩ := C.ex
  obtain ⟨p1, p2, p3, p4, p5, p6, j, h0, hds, eb, ha⟩ := C.bd
  obtain ⟨d1, d2, d3, d4, d5⟩ := C.dn
  rw [eb] at lk hb
  have hG := why_gives (X := X) (q := X.env.qual ++ "<lambda>") (x := x) (a := a) (g := g) (cdg := cdv) (k := k + 2) (p1 := p1) (p2 := p2) (p3 := p3) (p4 := p4) (p5 := p5) (p6 := p6) (j := j) (Ng := Ng) (sg := defScope st) hr C.sc.nd C.hi C.hl C.hv C.rg C.rm ha C.gl C.rs (fun f => by
    have h := C.v0
    show (L2.start Ng [V.ref f])[0]? = _
    cases Ng with
    | nil => cases h
    | cons y ys => rfl) (fun {xx} => rfl) d1 d2
  exact pe_imp (pe_lamG (T := tabsOf X.K) (t := fun E => tE (kx X) (fun cls d _ H => E cls d H) pb m) hg hm hk lk hcg hb C.sc C.v0 C.va hG LG.tb hcode LG.mem LG.un hr L hdef hbind hbody d5 d3 d4) fun σ H Q h => tLam_why C.rs h
theorem dE_whyL {rl : List (Str × List ExF)} (C : WhyG X.prog X.w X.K X.mg x a st Ng n i rs) (hr : Rg (k + 3) X.A) (hg : Gl X x) (LG : LamG X.base X.K X.mg c P (X.env.qual ++ "<lambda>")) (hcode : X.env.code = .ref c) (L : LamS X.env.scope scope) (hdef : defaultsOf params X.env = ([], []))
    (hbind : ∀ (q : Str) (cl : List (Str × Addr)) (pm cv ctv : Value), bindArgs (PySem.W.kla_fn "<lambda>" q params body scope cl pm cv ctv) ⟨[], []⟩ = pure [])
    (hbody : ∀ (A : Around) (outer : List PySem.Env) (s : Shared) (H : Hp) (E : XK) (f c' : Addr), Rg k (A.deeper (lamEnv X scope s.heap.objs.size f c')) → PE (lamCx X A outer s H E scope f c') body (tE (kx X) (fun cls d _ H => E cls d H) pb m)) (hrl : (rs.map fun r => (r.c, r.is)) = rl := by rfl) :
    PE X (.Call (.Name x p) [.Lambda params body scope lpos] [] pos) (tE (kx X) W false (mWhy rl m)) := by
  subst hrl
  exact dE_why C hr hg LG hcode L hdef hbind hbody
end
end DL

end

section
set_option Elab.async false
set_option linter.all false
set_option maxRecDepth 100000
namespace DL
open PySem PySem.Spec L2 RZ LamX PyProof.Rows
theorem okGc {P : Program} {w : World} {K : PySem.W.Frag} {mg : Str → Option Value} {base : Heap} {x qual : Str} {st : Stmt} {f c : Addr} {fd : FuncData} {N ps : List Str} {k : Nat} {sp : Sp} (F : Fun K x qual st f fd) (hfc : fd.code = .ref c) (S : FnScope N ps (defScope st)) (len : ∀ vs H Q E, sp vs H Q E → vs.length = ps.length)
    (hbody : ∀ (A : Around) (outer : List PySem.Env) (s : Shared) (H : Hp) (vs : List V) (Q : VK) (E : XK), Rg k (A.deeper (envOfC qual (defScope st) s.heap.objs.size f (.ref c))) → sp vs H Q E →
      ∃ t, PSs (cxOf CX0 P w K mg base N qual (defScope st) f (.ref c) A outer s H E).nox (defBody st) t ∧ t { nx := fun _ H' => Q .non H', rt := Q } (L2.start N vs) H) : FnG P w K mg base CX0 (k + 1) f fd ps sp := by
  obtain ⟨oc, od, kV, doc, pm, an, cdv, ct, osl, rfl, lk, hcd⟩ := F.ex
  have e : cdv = .ref c := hfc
  subst e
  refine fn_ofG lk hcd S len fun A outer s H vs Q E hr hsp => ?_
  obtain ⟨t, h, q⟩ := hbody A outer s H vs Q E hr hsp
  exact ⟨t, h.nox, q⟩
theorem fn_GT {c : Addr} {P : Program} {w : World} {K : PySem.W.Frag} {mg : Str → Option Value} {base : Heap} {x qual : Str} {st : Stmt} {f : Addr} {fd : FuncData} {N ps : List Str} {k : Nat} {mu : List Nat} {m : MS} (Fu : Fun K x qual st f fd) (hfc : fd.code = .ref c) (S : FnScope N ps (defScope st)) (hps : ps.length ≤ N.length)
    (hb : ∀ (A : Around) (outer : List PySem.Env) (s : Shared) (H : Hp) (E : XK), Rg k (A.deeper (envOfC qual (defScope st) s.heap.objs.size f (.ref c))) → PSs (cxOf CX0 P w K mg base N qual (defScope st) f (.ref c) A outer s H E).nox (defBody st) (tS ⟨K, mg⟩ W0 mu m)) :
    FnG P w K mg base CX0 (k + 1) f fd ps (spX ⟨K, mg⟩ ps.length (semOf N.length ps.length mu m)) := by
  refine okGc Fu hfc S (fun vs H Q E h => h.1) fun A outer s H vs Q E hr h => ⟨_, hb A outer s H E hr, ?_⟩
  obtain ⟨hl, Af, F, os, g, h⟩ := h
  have ho : os.length = ps.length := by have := g.len; simp at this; omega
  have hv : (vs.map some).length = ps.length := by simp [hl]
  refine ⟨Af, F, os.map some ++ List.replicate (N.length - ps.length) none, ?_, ?_⟩
  · unfold L2.start
    rw [hl]
    exact gPad g _
  · simp only [semOf, if_pos ho] at h
    have hm : ∀ {σ' : L2.St}, (∀ i ∈ mu, σ'[i]? = (L2.start N vs)[i]?) → ∀ i ∈ mu, i < ps.length → σ'[i]? = (vs.map some)[i]? := fun q i hi hn => by
      rw [q i hi]
      unfold L2.start
      rw [List.getElem?_append_left (by rw [hv]; exact hn)]
    cases e : m (os.map some ++ List.replicate (N.length - ps.length) none) with
    | bad => rw [e] at h; exact h
    | brk _ => rw [e] at h; exact h.elim
    | cont _ => rw [e] at h; exact h.elim
    | exc _ _ => rw [e] at h; exact h.elim
    | next ρ' =>
      rw [e] at h
      intro σ' A' F' H' f' g' m'
      obtain ⟨g2, f2⟩ := (gCut g' hv (hm m')).pushSh .non
      exact h .non _ F' H' (f'.trans f2) g2
    | ret r ρ' =>
      rw [e] at h
      intro v σ' A' F' H' f' g' m'
      exact h v A' F' H' f' (gCut g' hv (hm m'))
/-- a law whose def holds lambdas: what is known of it -/
theorem law_GT {l : PySem.W.OpenLaw} {w : World} {K : PySem.W.Frag} {k n : Nat} {x : Str} {mg : Str → Option Value} {fa c P : Addr} {q : Str} {h : Heap} {fd : FuncData} (hn : n ≤ 63) (ht : tabsOf K = [(P, q)]) (h1 : h.get? P = some { cls := .none, data := .fields #[] }) (h2 : K.lookup P = none) (h3 : PySem.W.CodeHd h c P)
    (hb : ∀ (s : Shared) (u : Value), BindsTo s fd ⟨[u], []⟩ [(x, u)])
    (F : ∀ base : Heap, K.In base → base.Ns mainGlobals mg → LamG base K mg c P q → FnG l.prog w K mg base CX0 k fa fd [x] (DL.spLaw K)) : LawGT l w K CX0 k n x mg fa h := by
  refine ⟨fd, [(c, P)], DL.spLaw K, fun p hp => ?_, fun p hp => ?_, fun p hp => ?_, hb, fun H a ns hl hp hS => ?_, fun base hK hN hT => ?_⟩
  · rw [List.mem_singleton] at hp; subst hp; exact h1
  · rw [List.mem_singleton] at hp; subst hp; exact h2
  · rw [List.mem_singleton] at hp; subst hp; exact h3
  · refine ⟨a, ns, rfl, hS, Nat.le_trans hl hn, fun p h => ?_, fun _ => rfl⟩
    rw [ht, List.mem_singleton] at h
    subst h
    exact hp (c, P) (List.mem_singleton_self _)
  · refine F base hK hN ⟨hT (c, P) (List.mem_singleton_self _), by rw [ht]; exact List.mem_singleton_self _, fun p hp _ => ?_⟩
    rw [ht, List.mem_singleton] at hp
    rw [hp]
end DL
namespace DL
open PySem L2 RZ PyProof.Rows
theorem exm_one {K : PySem.W.Frag} {C D N : Addr} {nm q : Str} {new : String} {bs bm sub : List Value} {sn : List Str} {ab b : Bool} {col : Option Bool} {dd : Option Addr} {k0 k1 k2 k3 k5 : Option Value} (h1 : PySem.W.subIn K (.ref C) (.type "BaseException") = some true)
    (h2 : K.lookup C = some (PySem.excClassObj nm q C N bs bm true sn sub ab col dd k0 k1 k2 k3 k5 new)) (h3 : PySem.W.typeIn K (.ref C) = some (.type "type")) (h4 : PySem.W.subIn K (.ref D) (.ref C) = some b) : PySem.W.exmOne K (.ref D) (.ref C) = some b := by
  have hcl : PySem.W.clsIn K C = some { name := nm, bases := bs, mro := .ref C :: bm, ns := N, qualname := q, hasDict := true, slotNames := sn, subclasses := sub, abstract := ab, collection := col, hasDel := false } := by unfold PySem.W.clsIn; rw [h2] <;> rfl
  unfold PySem.W.exmOne PySem.W.kitCls
  rw [h1]
  show (if (true : Bool) = true then (if ((PySem.W.clsIn K C).isSome && PySem.W.typeIn K (.ref C) == some (.type "type")) = true then PySem.W.subIn K (.ref D) (.ref C) else none) else none) = some b
  rw [hcl, h3, h4]
  rfl
end DL

end

section
set_option Elab.async false
set_option linter.all false
set_option maxRecDepth 100000
namespace DL
open PySem L2 RZ PyProof.Rows
def put2L (i j : Nat) (k l : Int) (a b : D) (ρ : DL.Env) : Option DL.Env := match ρ[i]? with
  | some (some o) => match setL o (.int k) a with
    | some o' => (match (ρ.set i (some o'))[j]? with
      | some (some u) => match setL u (.int l) b with
        | some u' => some ((ρ.set i (some o')).set j (some u'))
        | none => none
      | _ => none)
    | none => none
  | _ => none
def sPut2L (i j : Nat) (k l : Int) (m : M D) : MS := sBind m fun d ρ => match d with
  | .tup [a, b] => (match put2L i j k l a b ρ with
    | some ρ' => .next ρ'
    | none => .bad)
  | _ => .bad
theorem G.setL1 {κ : Kx} {A : Fp} {F H : Hp} {ρ : DL.Env} {σ : L2.St} {τ : List O} {υ : List V} {i : Nat} {k : Int} {o o' : O} {d : D} {v : V} (g : G κ A F H ρ σ τ υ) (r : Rep κ F v d) (e : ρ[i]? = some (some o)) (eo : setL o (.int k) d = some o') :
    ∃ a xs n, σ[i]? = some (some (.ref a)) ∧ H a = some (.lst xs) ∧ ixN xs.length k = some n ∧ G κ A F (upd H a (.lst (xs.set n v))) (ρ.set i (some o')) σ τ υ ∧ Fr A F H A F (upd H a (.lst (xs.set n v))) := by
  obtain ⟨xs, j, n, rfl, ej, hn, rfl⟩ := setL_some eo
  cases ej
  obtain ⟨a, vs, h2, h3, h4, h5, w⟩ := g.writeS (ds' := xs.set n d) e
  obtain ⟨g3, f3⟩ := w (vs.set n v) (Reps.set r n h5)
  exact ⟨a, vs, n, h2, h4, by rw [h5.length]; exact hn, g3, f3⟩
section
variable {X : Cx} {W : WX'} {mu : List Nat} {e k1 k2 : Expr} {p : Bool} {pos : Pos} {i j : Nat} {k l : Int}
theorem dS_put2L {st : Stmt} {x y : Str} {px py : Pos} {m : M D} (h : ∀ tv tx tk ty tl, PE X e tv → PE X (.Name x px) tx → PE X k1 tk → PE X (.Name y py) ty → PE X k2 tl → PS X st (tAsg tv (gTup X.K 2 (gCons (gSub tx tk rSetL) (gCons (gSub ty tl rSetL) gNil))))) (hx : PE X (.Name x px) (tVar i)) (hk : PE X k1 (tC (.int k)))
    (hy : PE X (.Name y py) (tVar j)) (hl : PE X k2 (tC (.int l))) (he : PE X e (tV (kx X) W p m)) : PS X st (tS (kx X) W mu (sPut2L i j k l m)) :=
  ps_imp (h _ _ _ _ _ he hx hk hy hl) fun E σ H ⟨A, F, ρ, g, h⟩ => ⟨A, F, ρ, [], [], g, h.bind.imp fun d ρ1 h v A1 F1 H1 s1 g1 r1 => by
    split at h
    · rename_i a b
      obtain ⟨pa, vs, rfl, h3, h4⟩ := r1.tup_v
      cases ep : put2L i j k l a b ρ1 with
      | none => rw [ep] at h; exact h.elim
      | some ρ2 =>
        rw [ep] at h
        unfold put2L at ep
        split at ep
        · rename_i o e1
          split at ep
          · rename_i o' e2
            split at ep
            · rename_i u e3
              split at ep
              · rename_i u' e4
                cases ep
                cases h4 with
                | @cons v1 vs1 _ _ ra rs =>
                  cases rs with
                  | @cons v2 vs2 _ _ rb rs =>
                    cases rs
                    obtain ⟨a1, xs1, n1, q1, q2, q3, g2, f2⟩ := g1.setL1 ra e1 e2
                    obtain ⟨a2, xs2, n2, z1, z2, z3, g3, f3⟩ := g2.setL1 rb e3 e4
                    exact ⟨pa, [v1, v2], rfl, SqT.of (g1.fh _ _ h3), rfl, v1, [v2], rfl, .ref a1, q1, a1, xs1, k, n1, rfl, rfl, q2, q3, v2, [], rfl, .ref a2, z1, a2, xs2, l, n2, rfl, rfl, z2, z3, rfl, h _ _ F1 _ (s1.fr.trans (f2.trans f3)) g3 fun _ _ => rfl⟩
              · cases ep
            · cases ep
          · cases ep
        · cases ep
    · exact h.elim⟩
end
section
variable {ρ : DL.Env} {K : Ks}
end
structure NotF (K : PySem.W.Frag) (mg : Str → Option Value) (c c2 : Str) : Prop where
  ex : ∃ C C2 : Addr, mg c = some (.ref C) ∧ mg c2 = some (.ref C2) ∧ PySem.W.notFirst K C (.ref C2) = true
def eqVal2 (c c2 : Str) (sem : Sem) (x y : O) : Option Bool := match x, y with
  | .fd (.sh (.ob c1 n1 d1)), .fd (.sh (.ob c2' n2 d2)) => if c1 = c ∧ c2' = c2 then (match sem [.sh (.ob c1 n1 d1), .sh (.ob c2' n2 d2)] with
    | .ok (.fd (.sh (.bl b))) _ => some b
    | _ => none) else none
  | _, _ => none
theorem eqVal2_of {c c2 : Str} {sem : Sem} {x y : O} {b : Bool} (h : eqVal2 c c2 sem x y = some b) : ∃ n1 d1 n2 d2 fs, x = .sh (.ob c n1 d1) ∧ y = .sh (.ob c2 n2 d2) ∧ sem [.sh (.ob c n1 d1), .sh (.ob c2 n2 d2)] = .ok (.sh (.bl b)) fs := by
  unfold eqVal2 at h
  split at h
  · split at h
    · rename_i hc
      obtain ⟨rfl, rfl⟩ := hc
      split at h
      · rename_i es
        cases h
        exact ⟨_, _, _, _, _, rfl, rfl, es⟩
      · cases h
    · cases h
  · cases h
def mEqX2 (c c2 : Str) (sem : Sem) (ma mb : M O) : M O := mBind ma fun x => mBind mb fun y => match eqVal2 c c2 sem x y with
  | some b => mPure (.sh (.bl b))
  | none => fun _ => .bad
def rOwnEq2 (κ : Kx) (C C2 : Addr) (sem : Sem) : R2 := fun x y H Q => ∃ a b dx dy fs gs, x = .ref a ∧ y = .ref b ∧ H a = some (.ins C dx fs) ∧ H b = some (.ins C2 dy gs) ∧
  spX κ 2 sem [.ref a, .ref b] H (fun v H' => (∃ c, v = .bl c) ∧ Q v H') (fun _ _ _ => False)
section
variable {X : Cx} {κ : Kx} {W : WX'} {a b : Expr} {pa pb : Bool} {ma mb : M O} {pos : Pos} {c c2 p1 p2 : Str} {j k : Nat} {sem : Sem}
theorem op_ownEq2 {C C2 f : Addr} {fd : FuncData} (M : Meth X.K C "__eq__" f) (F : FnG X.prog X.w X.K X.mg X.base CX0 j f fd [p1, p2] (spX (kx X) 2 sem)) (bi : Binds X.K fd [p1, p2] []) (hr : Rg k X.A) (hjk : j ≤ k) (hN : PySem.W.notFirst X.K C (.ref C2) = true) : OpR X (compareOp .Eq) (rOwnEq2 (kx X) C C2 sem) := by
  intro pins s σ H x y v u Q I rx ry hq
  obtain ⟨a, b, dx, dy, fs, gs, rfl, rfl, ha, hb, sp⟩ := hq
  show wpAny (model X.prog X.w) X.A (richCompare .Eq v u) (EP X pins σ Q) X.xe s
  cases rx
  cases ry
  obtain ⟨mA, J, _⟩ := ins_get I.hok ha
  obtain ⟨mB, J', _⟩ := ins_get I.hok hb
  obtain ⟨od, J, _⟩ := J.look
  obtain ⟨od', J', _⟩ := J'.look
  obtain ⟨m, hF⟩ := I.fr
  refine PySem.W.cmp_K (op := .Eq) (tb := .ref C2) (by have := huG hr; omega) hF I.ok.mod.kin J J'.type hN M.at_ M.fn ?_
  refine wpAny_mono (run_fnG (us := [.ref a, .ref b]) (vs := [.ref a, .ref b]) (E := fun _ _ _ _ => False) (F.mono hjk) hr bi passAt0 I (.cons rfl (.cons rfl .nil)) sp) (fun r s' z => ?_) fun _ _ x => x
  obtain ⟨w, H', I', rw, ⟨cc, ew⟩, q⟩ := z
  subst ew
  cases rw
  exact ⟨.bl cc, H', I', rfl, q⟩
theorem tOp_eqX2 {C C2 : Addr} (hc : κ.mg c = some (.ref C)) (hc2 : κ.mg c2 = some (.ref C2)) {σ : L2.St} {H : Hp} {Q : VK} (h : tE κ W false (mEqX2 c c2 sem ma mb) σ H Q) : tOp (rOwnEq2 κ C C2 sem) (tE κ W pa ma) (tE κ W pb mb) σ H Q := by
  obtain ⟨A, F, ρ, τ, υ, g, h⟩ := h
  refine ⟨A, F, ρ, τ, υ, g, h.bind.imp fun x ρ1 hx v1 A1 F1 H1 s1 g1 => ?_⟩
  refine ⟨A1, F1, ρ1, τ ++ [x], υ ++ [v1], g1, ((hx.step s1.fr).bind.pop).imp fun y ρ2 hy v2 A2 F2 H2 s2 g2 => ?_⟩
  have e1 := g2.own (.t (τ.length + 1)) y (by simp [atO])
  have e0 := g2.own (.t τ.length) x (by simp [atO])
  obtain ⟨w1, a1, o1⟩ := e0
  obtain ⟨w2, a2, o2⟩ := e1
  have hl := g.lent
  have : w1 = v1 := by simp [atV, hl] at a1; exact a1.symm
  subst this
  have : w2 = v2 := by simp [atV, hl] at a2; exact a2.symm
  subst this
  cases ev : eqVal2 c c2 sem x y with
  | none => rw [ev] at hy; exact hy.elim
  | some bb =>
    rw [ev] at hy
    obtain ⟨n1, d1, n2, d2, fs2, rfl, rfl, es⟩ := eqVal2_of ev
    obtain ⟨a, C1, dx, fs, rfl, h4, h5, _, _⟩ := (o1.sh_v).ob_v
    obtain ⟨b, C2', dy, gs, rfl, k4, k5, _, _⟩ := (o2.sh_v).ob_v
    rw [hc] at h5
    rw [hc2] at k5
    cases h5; cases k5
    refine ⟨a, b, dx, dy, fs, gs, rfl, rfl, g2.fh _ _ h4, g2.fh _ _ k4, ?_⟩
    refine (callee (W := fun _ _ _ _ => False) (as := [none, none]) (rs := [_, _]) (us := [_, _]) rfl (by decide) (s1.fr.trans s2.fr) (by simpa using g2) g.lent (.push (.push .nil)) ?_ : spX κ 2 sem _ H2 _ fun cls d H => (fun _ _ _ _ => False) cls d σ H)
    show Wp κ _ A F H σ τ υ (match sem [.sh (.ob c n1 d1), .sh (.ob c2 n2 d2)] with
      | .ok r fs => .ok r (putBack ρ2 [none, none] fs ρ2)
      | .exc e fs => .exc e (putBack ρ2 [none, none] fs ρ2)
      | .bad => .bad) _
    rw [es]
    intro v A' F' H' f' g'
    have hv : v = .bl bb := by
      obtain ⟨_, w, _⟩ := G.pop (τ := τ) (r := .sh (.bl bb)) g'
      exact w.sh_v.bl_v
    exact ⟨⟨bb, hv⟩, hy v A' F' H' (.no f') g'⟩
theorem dT_eqX2 (C : MetG X.prog X.w X.K X.mg X.base j c "__eq__" [p1, p2] sem) (hr : Rg k X.A) (hjk : j ≤ k) (N : NotF X.K X.mg c c2) (ha : PE X a (tE (kx X) W pa ma)) (hb : PE X b (tE (kx X) W pb mb)) (hm : behindInMarks .Eq b = false) : PT X (.Compare a [.Eq] [b] pos) (tT (kx X) W false (mBl (mEqX2 c c2 sem ma mb))) := by
  obtain ⟨C, f, fd, cl, M, F, mc, bi⟩ := C.ex
  obtain ⟨D1, D2, n1, n2, n3⟩ := N.ex
  have eD : D1 = C := by rw [mc] at n1; cases n1; rfl
  subst eD
  exact pt_imp (pt_cmpR (op_ownEq2 M F bi hr hjk n3) ha hb hm) fun _ _ _ h => tOp_eqX2 mc n2 (tE_bl h)
end
theorem notF_of {K : PySem.W.Frag} {C C2 : Addr} (h : PySem.W.subIn K (.ref C2) (.ref C) = some false) : PySem.W.notFirst K C (.ref C2) = true := by
  unfold PySem.W.notFirst
  rw [h]
  simp
end DL

end

section
set_option Elab.async false
set_option linter.all false
set_option maxRecDepth 100000
namespace DL
open PySem L2 RZ PyProof.Rows
def frzs : List Nat → DL.Env → Option DL.Env
  | [], ρ => some ρ
  | i :: is, ρ => match ρ[i]? with
    | some (some o) => frzs is (ρ.set i (some (.sh o.toD)))
    | _ => none
def shSlot : Option O → Option O
  | some (.fd (.sh d)) => some (.sh d)
  | _ => none
def shOnly (ρ : DL.Env) : DL.Env := ρ.map shSlot
def flatD : D → Bool
  | .non => true
  | .bl _ => true
  | .int _ => true
  | .str _ => true
  | _ => false
def mPeek (vs : List Nat) (m : M O) : M O := fun ρ => match frzs vs ρ with
  | some ρ1 => (match m (shOnly ρ1) with
    | .ok (.fd (.sh d)) _ => if flatD d = true then .ok (.sh d) ρ else .bad
    | _ => .bad)
  | none => .bad
theorem G.frzs {κ : Kx} {H : Hp} {σ : L2.St} {τ : List O} {υ : List V} : ∀ {vs : List Nat} {A : Fp} {F : Hp} {ρ ρ1 : DL.Env}, G κ A F H ρ σ τ υ → DL.frzs vs ρ = some ρ1 → ∃ A1 F1, G κ A1 F1 H ρ1 σ τ υ
  | [], A, F, ρ, ρ1, g, e => by cases e; exact ⟨A, F, g⟩
  | i :: is, A, F, ρ, ρ1, g, e => by
    unfold DL.frzs at e
    split at e
    · rename_i o eo
      obtain ⟨F', g', _⟩ := g.freeze eo
      exact G.frzs g' e
    · cases e
theorem G.only {κ : Kx} {A : Fp} {F H : Hp} {ρ : DL.Env} {σ : L2.St} {τ : List O} {υ : List V} (g : G κ A F H ρ σ τ υ) : G κ (fun _ => []) F H (shOnly ρ) σ [] [] := by
  refine ⟨by simp [shOnly, g.len], rfl, fun x o eo => ?_, fun _ => List.nodup_nil, fun _ _ _ _ hx => by simp at hx, fun _ _ hx => by simp at hx, fun _ _ hx => by simp at hx, g.fh, g.tab⟩
  cases x with
  | t k => simp [atO] at eo
  | s i =>
    have e := atO_get eo
    unfold shOnly at e
    rw [List.getElem?_map] at e
    cases q : ρ[i]? with
    | none => rw [q] at e; cases e
    | some z =>
      rw [q] at e
      have e : shSlot z = some o := by simpa using e
      unfold shSlot at e
      split at e
      · cases e
        obtain ⟨v, h1, h2⟩ := g.own (.s i) _ (by simp [atO, q]; rfl)
        exact ⟨v, by simpa [atV] using h1, .fd (.sh h2.sh_v)⟩
      · cases e
theorem flatRep {κ : Kx} {F F' : Hp} {v : V} {d : D} (r : Rep κ F v d) (h : flatD d = true) : Rep κ F' v d := by
  cases r with
  | non => exact .non
  | bl b => exact .bl b
  | int i => exact .int i
  | str x => exact .str x
  | _ => cases h
theorem dE_peek {X : Cx} {W : WX'} {e : Expr} {p : Bool} {m : M O} {vs : List Nat} (he : PE X e (tE (kx X) W p m)) : PE X e (tE (kx X) W false (mPeek vs m)) := pe_imp he fun σ H Q ⟨A, F, ρ, τ, υ, g, h⟩ => by
  unfold mPeek at h
  split at h
  · rename_i ρ1 e1
    obtain ⟨A1, F1, g1⟩ := g.frzs e1
    refine ⟨fun _ => [], F1, shOnly ρ1, [], [], g1.only, ?_⟩
    split at h
    · rename_i d ρ2 em
      rw [em]
      intro v A2 F2 H2 s2 g2
      split at h
      · rename_i hf
        have g2 : G (kx X) A2 F2 H2 ρ2 σ ([] ++ [.sh d]) ([] ++ [v]) := g2
        obtain ⟨_, w, _⟩ := g2.pop
        have keepAll : ∀ b o, H b = some o → (∀ ps, o ≠ .tbl ps) → H2 b = some o := fun b o e n => s2.fr.keep b o e n fun x z => by simp at z
        have g3 : G (kx X) A F H2 ρ σ τ υ := by
          refine ⟨g.len, g.lent, fun x o eo => ?_, g.nd, g.dj, g.ff, fun x b hb => ?_, fun b o e => keepAll b o (g.fh b o e) fun ps z => g.tab.noF b ps (by rw [e, z]), ⟨fun q hq => ⟨(g.tab.at_ q hq).1, (g2.tab.at_ q hq).2⟩, g.tab.noF⟩⟩
          · obtain ⟨v, h1, h2⟩ := g.own x o eo
            refine ⟨v, h1, h2.mono (Same.refl _) fun b hb u eu => ?_⟩
            obtain ⟨o', e', nt⟩ := g.ft x b hb
            rw [eu] at e'; cases e'
            exact keepAll b _ eu (NotT.nt nt)
          · obtain ⟨o', e', nt⟩ := g.ft x b hb
            exact ⟨o', keepAll b _ e' (NotT.nt nt), nt⟩
        have f3 : Fr A F H A F H2 := ⟨fun b o e n _ => keepAll b o e n, s2.fr.there, fun x b hb => .inl ⟨x, hb⟩, Same.refl _, fun b h => .inl h⟩
        obtain ⟨g4, f4⟩ := g3.pushSh (flatRep (F' := F) w.sh_v hf)
        exact h v _ F H2 (.no (f3.trans f4)) g4
      · exact h.elim
    · exact h.elim
  · exact h.elim
structure KitNo (K : PySem.W.Frag) (mg : Str → Option Value) (c c2 : Str) : Prop where
  ex : ∃ C C2 : Addr, mg c = some (.ref C) ∧ mg c2 = some (.ref C2) ∧ PySem.W.kitOne K (.ref C2) (.ref C) = some false
theorem kit_no {K : PySem.W.Frag} {C C2 : Addr} (h1 : PySem.W.isClsIn K C = true) (h2 : PySem.W.typeIn K (.ref C) = some (.type "type")) (h3 : PySem.W.subIn K (.ref C2) (.ref C) = some false) (h4 : (C2 == C) = false) : PySem.W.kitOne K (.ref C2) (.ref C) = some false := by
  have h0 : (Value.ref C2 == Value.ref C) = false := by
    have : C2 ≠ C := by simpa using h4
    exact beq_eq_false_iff_ne.mpr fun z => this (by cases z; rfl)
  unfold PySem.W.kitOne PySem.W.kitCls
  rw [h0]
  have h1 : (PySem.W.clsIn K C).isSome = true := h1
  show (if (false : Bool) = true then some true else (if ((PySem.W.clsIn K C).isSome && PySem.W.typeIn K (.ref C) == some (.type "type")) = true then PySem.W.subIn K (.ref C2) (.ref C) else none)) = some false
  rw [h1, h2, h3]
  rfl
def mIsC2 (c c2 : Str) (m : M (Option Nat × O)) : M D := mBind m fun x => if obC c x.2.toD = true then mPure (.bl true) else if obC c2 x.2.toD = true then mPure (.bl false) else fun _ => .bad
section
variable {X : Cx} {W : WX'} {e : Expr} {p : Bool} {m : M (Option Nat × O)}
theorem dV_isC2 {c c2' : Str} {cp : Pos} {st : Expr} (C : IsC X.K X.mg c) (C2 : IsC X.K X.mg c2') (N : KitNo X.K X.mg c c2') (h : ∀ t, PA X [e, .Name c cp] t → PE X st (tCB (rIsi X.K) t)) (he : PE X e (tB (kx X) W p m)) (hg : Gl X c) (hdb : (c == ("__debug__" : Str)) = false := by decide)
    (hs1 : starEach (e :: [.Name c cp]) X.env = (false, eval e X.env) :: starEach [.Name c cp] X.env := by rfl) (hs2 : starEach (.Name c cp :: []) X.env = (false, eval (.Name c cp) X.env) :: starEach [] X.env := by rfl) : PE X st (tV (kx X) W p (mIsC2 c c2' m)) := by
  obtain ⟨a0, hm, c1, c2, c3, c4, c5, c6⟩ := C.ex
  obtain ⟨b0, hm', d1, d2, d3, d4, d5, d6⟩ := C2.ex
  obtain ⟨a1, b1, n1, n2, n3⟩ := N.ex
  rw [hm] at n1; cases n1
  rw [hm'] at n2; cases n2
  refine pe_imp (h _ (pa_cons he (pa_cons (pe_glob (v := .ref a0) hg hm rfl hdb) pa_nil hs2) hs1)) fun σ H Q ⟨A, F, ρ, τ, υ, g, h⟩ => ⟨A, F, ρ, τ, υ, g, h.bind.imp fun x ρ1 h v B A1 F1 H1 s1 g1 w _ => ?_⟩
  split at h
  · rename_i ho
    obtain ⟨ns, vs, ex⟩ := obC_of ho
    have r := w.repH g1.fh
    rw [ex] at r
    obtain ⟨a, C', dx, fs, rfl, h1, h2⟩ := r.ob_at
    have h2 : X.mg c = some (.ref C') := h2
    rw [hm] at h2
    cases h2
    exact ⟨.ref a, .ref a0, .ref a0, .ref a0, true, rfl, .own a0, .base (.ins h1 c1 c2 c3 c4 c5), c6, h _ A1 F1 H1 s1 g1 (.bl _)⟩
  · split at h
    · rename_i ho
      obtain ⟨ns, vs, ex⟩ := obC_of ho
      have r := w.repH g1.fh
      rw [ex] at r
      obtain ⟨a, C', dx, fs, rfl, h1, h2⟩ := r.ob_at
      have h2 : X.mg c2' = some (.ref C') := h2
      rw [hm'] at h2
      cases h2
      exact ⟨.ref a, .ref a0, .ref b0, .ref a0, false, rfl, .own a0, .base (.ins h1 d1 d2 d3 d4 d5), n3, h _ A1 F1 H1 s1 g1 (.bl _)⟩
    · exact h.elim
end
end DL

end

section
set_option Elab.async false
set_option linter.all false
set_option maxRecDepth 100000
namespace W23
open PySem L2 RZ DL PyProof.Rows
abbrev top (i : Nat) : Stmt := PySem.Challenge.pw_everycycle_k23_machines_refused.main.body.getD i (.Pass ⟨0, 0, 0, 0⟩)
/-- what the module does not rebind -/
structure Txt (mg : Str → Option Value) : Prop where
  m : ∀ x ∈ (["all", "bool", "enumerate", "int", "isinstance", "len", "list", "repr", "tuple"] : List Str), mg x = none

abbrev s__law_pen : Stmt := top 16
-- d__law_pen, sem__law_pen: the shared ones
theorem sc__law_pen : FnScope ["_law_script", "_law_fold", "_law_cell"] ["_law_script"] (defScope s__law_pen) := ⟨rfl, rfl, rfl, by decide +kernel, rfl, by decide +kernel, by decide +kernel⟩
theorem ok__law_pen {P : Program} {w : World} {K : PySem.W.Frag} {mg : Str → Option Value} {base : Heap} (T : Txt mg) (TF : FieldsOk ⟨K, mg⟩ tbl) {f : Addr} {fd : FuncData} (F : Fun K "_law_pen" "_law_pen" s__law_pen f fd) (hm : mg "_law_pen" = some (.ref f)) : CalG P w K mg base 1 "_law_pen" ["_law_script"] sem__law_pen :=
  ⟨f, fd, fn_G (k := 0) (N := ["_law_script", "_law_fold", "_law_cell"]) F sc__law_pen (by decide) (fun cdv A outer s H E hr => have sc := sc__law_pen
    (dS_cons (dS_set (i := 1) (fun _ h => ps_set sc.nd rfl (by first | exact Or.inl rfl | exact Or.inr rfl) h) (dE_V dV_int) (by decide))
    (dS_cons (dS_for (fun g tb hg hb => ps_for PassesOwn.never rfl (dI_seq (fun h => pi_list h) (fun h => pi_tup h) (dV_nameV (pv 0))) hg hb) (fun _ _ _ z => z) (dG_name (pg_name sc.nd rfl (by first | exact Or.inl rfl | exact Or.inr rfl)))
    (dS_one (dS_set (i := 1) (fun _ h => ps_set sc.nd rfl (by first | exact Or.inl rfl | exact Or.inr rfl) h) (de_opS op_mod mod_sem (dE_callT call_int1 (Call1.op int_sem) rfl (T.m "int" (by decide)) PyProof.Rows.boot_int (dBs_cons (dB_E (de_opS op_addA add_sem (de_opN op_mulW mul_semI (pv 1) (dB_V dV_int)) (dB_name (pv 2)))) dBs_nil) (by decide) (by decide)) (dB_V dV_int)) (by decide))) (by decide))
    (dS_one (dS_ret (dE_disp (dP_cons dV_str (dV_E (dE_callT call_list_of (Call1.op list_sem) rfl (T.m "list" (by decide)) PyProof.Rows.boot_list (dBs_cons (dB_name (pv 0)) dBs_nil) (by decide) (by decide))) (dP_cons dV_str dV_int (dP_cons dV_str dV_int (dP_cons dV_str dV_int (dP_cons dV_str (dV_nameV (pv 1)) (dP_nil)))))))))))), hm, F.kp, F.binds fun _ _ _ _ _ _ us hl => match us, hl with | [_], _ => rfl⟩

abbrev s_is_count : Stmt := top 5
-- d_is_count, sem_is_count: the shared ones
theorem sc_is_count : FnScope ["value"] ["value"] (defScope s_is_count) := ⟨rfl, rfl, rfl, by decide +kernel, rfl, by decide +kernel, by decide +kernel⟩
theorem ok_is_count {P : Program} {w : World} {K : PySem.W.Frag} {mg : Str → Option Value} {base : Heap} (T : Txt mg) (TF : FieldsOk ⟨K, mg⟩ tbl) {f : Addr} {fd : FuncData} (F : Fun K "is_count" "is_count" s_is_count f fd) (hm : mg "is_count" = some (.ref f)) : CalG P w K mg base 1 "is_count" ["value"] sem_is_count :=
  ⟨f, fd, fn_G (k := 0) (N := ["value"]) F sc_is_count (by decide) (fun cdv A outer s H E hr => have sc := sc_is_count
    (dS_one (dS_ret (dE_V (dV_and (dV_isi1 (fun _ h => (pe_callB call_isi rfl (T.m "isinstance" (by decide)) PyProof.Rows.boot_isinstance h)) (dB_name (pv 0)) (pe_bltn rfl (T.m "int" (by decide)) PyProof.Rows.boot_int rfl)) (dV_and (dV_not (dB_V (dV_isi1 (fun _ h => (pe_callB call_isi rfl (T.m "isinstance" (by decide)) PyProof.Rows.boot_isinstance h)) (dB_name (pv 0)) (pe_bltn rfl (T.m "bool" (by decide)) PyProof.Rows.boot_bool rfl)))) (dV_one (dV_E (de_cmpN op_ge ge_sem (pv 0) (dB_V dV_int) (nomark _)))))))))), hm, F.kp, F.binds fun _ _ _ _ _ _ us hl => match us, hl with | [_], _ => rfl⟩

abbrev s_is_literal : Stmt := top 6
-- d_is_literal, sem_is_literal: the shared ones
theorem sc_is_literal : FnScope ["value", "nodes"] ["value", "nodes"] (defScope s_is_literal) := ⟨rfl, rfl, rfl, by decide +kernel, rfl, by decide +kernel, by decide +kernel⟩
theorem ok_is_literal {P : Program} {w : World} {K : PySem.W.Frag} {mg : Str → Option Value} {base : Heap} (T : Txt mg) (TF : FieldsOk ⟨K, mg⟩ tbl) (c_is_count : CalG P w K mg base 1 "is_count" ["value"] sem_is_count) {f : Addr} {fd : FuncData} (F : Fun K "is_literal" "is_literal" s_is_literal f fd) (hm : mg "is_literal" = some (.ref f)) : CalG P w K mg base 2 "is_literal" ["value", "nodes"] sem_is_literal :=
  ⟨f, fd, fn_G (k := 1) (N := ["value", "nodes"]) F sc_is_literal (by decide) (fun cdv A outer s H E hr => have sc := sc_is_literal
    (dS_one (dS_ret (dE_V (dV_and (dV_E (de_callG c_is_count hr (by decide) rfl (dA_slot (pv 0) dA_nil))) (dV_one (dV_E (de_cmpN op_lt lt_sem (pv 0) (dB_E (de_opS op_mulW mul_semI (dE_V dV_int) (dB_name (pv 1)))) (nomark _))))))))), hm, F.kp, F.binds fun _ _ _ _ _ _ us hl => match us, hl with | [_, _], _ => rfl⟩

abbrev s_are_gates : Stmt := top 7
-- d_are_gates, sem_are_gates: the shared ones
theorem sc_are_gates : FnScope ["leaves", "gates", "k", "gate", "literal"] ["leaves", "gates"] (defScope s_are_gates) := ⟨rfl, rfl, rfl, by decide +kernel, rfl, by decide +kernel, by decide +kernel⟩
theorem ok_are_gates {P : Program} {w : World} {K : PySem.W.Frag} {mg : Str → Option Value} {base : Heap} (T : Txt mg) (TF : FieldsOk ⟨K, mg⟩ tbl) (c_is_literal : CalG P w K mg base 2 "is_literal" ["value", "nodes"] sem_is_literal) {f : Addr} {fd : FuncData} (F : Fun K "are_gates" "are_gates" s_are_gates f fd) (hm : mg "are_gates" = some (.ref f)) : CalG P w K mg base 3 "are_gates" ["leaves", "gates"] sem_are_gates :=
  ⟨f, fd, fn_G (k := 2) (N := ["leaves", "gates", "k", "gate", "literal"]) F sc_are_gates (by decide) (fun cdv A outer s H E hr => have sc := sc_are_gates
    (dS_cons (dS_if (dT_not (dT_tru (dB_V (dV_isi2 (fun _ h => (pe_callB call_isiT rfl (T.m "isinstance" (by decide)) PyProof.Rows.boot_isinstance h)) (dB_name (pv 1)) (pe_bltn rfl (T.m "tuple" (by decide)) PyProof.Rows.boot_tuple rfl) (pe_bltn rfl (T.m "list" (by decide)) PyProof.Rows.boot_list rfl))))) (dS_one (dS_ret (dE_V dV_bl))) dS_nil)
    (dS_cons (dS_for (fun g tb hg hb => ps_for PassesOwn.never rfl (dI_enumA (pi_ent rfl (T.m "enumerate" (by decide)) (dVs_cons (dV_nameV (pv 1)) dVs_nil))) hg hb) (fun _ _ _ z => z) (dG_tup rfl (dGs_cons (dG_name (pg_name sc.nd rfl (by first | exact Or.inl rfl | exact Or.inr rfl))) (dGs_cons (dG_name (pg_name sc.nd rfl (by first | exact Or.inl rfl | exact Or.inr rfl))) dGs_nil)))
    (dS_cons (dS_if (PW.pt (dT_or (dT_not (dT_tru (dB_V (dV_isi2 (fun _ h => (pe_callB call_isiT rfl (T.m "isinstance" (by decide)) PyProof.Rows.boot_isinstance h)) (dB_name (pv 3)) (pe_bltn rfl (T.m "tuple" (by decide)) PyProof.Rows.boot_tuple rfl) (pe_bltn rfl (T.m "list" (by decide)) PyProof.Rows.boot_list rfl))))) (dT_or1 (dT_cmpS (op_neD (huG64 hr)) ne_sem (dE_callB call_lenA (Call1.op len_sem) rfl (T.m "len" (by decide)) PySem.boot_len (dBs_cons (dB_name (pv 3)) dBs_nil) (by decide) (by decide)) (dB_V dV_int) (nomark _))))) (dS_one (dS_ret (dE_V dV_bl))) dS_nil)
    (dS_one (dS_if (dT_not (dT_tru (dB_E (dE_callB (cr_all rfl) (Call1.op all_sem) rfl (T.m "all" (by decide)) PyProof.Rows.boot_all (dBs_cons (dB_E (dE_lc (W' := W0) (own := [("literal", 4)]) rfl sc.nd (blkOk_by (by rfl)) (dI_seq (fun h => pi_list h) (fun h => pi_tup h) (dV_nameV (pv 3))) (fun s H C cl fp => (dG_name (pg_name sc.nd rfl (by first | exact Or.inl rfl | exact Or.inr rfl)))) (fun s H C cl fp => dTs_nil) (fun s H C cl fp => (dV_E (de_callG c_is_literal hr (by decide) rfl (dA_slot (pv 4) (dA_push (de_opS op_addA add_sem (de_opS op_addA add_sem (dE_V dV_int) (dB_name (pv 0))) (dB_name (pv 2))) dA_nil))))))) dBs_nil) (by decide) (by decide))))) (dS_one (dS_ret (dE_V dV_bl))) dS_nil))) (by decide))
    (dS_one (dS_ret (dE_V dV_bl)))))), hm, F.kp, F.binds fun _ _ _ _ _ _ us hl => match us, hl with | [_, _], _ => rfl⟩

abbrev s_Graph___init__ : Stmt := inClass (top 8) 0
-- d_Graph___init__, sem_Graph___init__: the shared ones
theorem sc_Graph___init__ : FnScope ["self", "leaves", "gates", "gate"] ["self", "leaves", "gates"] (defScope s_Graph___init__) := ⟨rfl, rfl, rfl, by decide +kernel, rfl, by decide +kernel, by decide +kernel⟩
theorem ok_Graph___init__ {P : Program} {w : World} {K : PySem.W.Frag} {mg : Str → Option Value} {base : Heap} (T : Txt mg) (TF : FieldsOk ⟨K, mg⟩ tbl) (c_is_count : CalG P w K mg base 1 "is_count" ["value"] sem_is_count) (c_are_gates : CalG P w K mg base 3 "are_gates" ["leaves", "gates"] sem_are_gates) {f : Addr} {fd : FuncData} (F : Fun K "__init__" "Graph.__init__" s_Graph___init__ f fd) : FnG P w K mg base CX0 4 f fd ["self", "leaves", "gates"] (spX ⟨K, mg⟩ 3 sem_Graph___init__) :=
  fn_G (k := 3) (N := ["self", "leaves", "gates", "gate"]) F sc_Graph___init__ (by decide) (fun cdv A outer s H E hr => have sc := sc_Graph___init__
    (dS_cons (dS_if (dT_not (dT_tru (dB_E (de_callG c_is_count hr (by decide) rfl (dA_slot (pv 1) dA_nil))))) (dS_one dS_bad) dS_nil)
    (dS_cons (dS_if (dT_not (dT_tru (dB_E (de_callG c_are_gates hr (by decide) rfl (dA_slot (pv 1) (dA_slot (pv 2) dA_nil)))))) (dS_one dS_bad) dS_nil)
    (dS_cons (dS_fldX TF (fun _ _ h1 h2 => ps_fld h1 h2 rfl) (pv 0) (dE_V (dV_nameV (pv 1))))
    (dS_one (dS_fldX TF (fun _ _ h1 h2 => ps_fld h1 h2 rfl) (pv 0) (dE_callT call_tuple_of (Call1.op tuple_sem) rfl (T.m "tuple" (by decide)) PyProof.Rows.boot_tuple (dBs_cons (dB_E (dE_lc (W' := W0) (own := [("gate", 3)]) rfl sc.nd (blkOk_by (by rfl)) (dI_seq (fun h => pi_list h) (fun h => pi_tup h) (dV_nameV (pv 2))) (fun s H C cl fp => (dG_name (pg_name sc.nd rfl (by first | exact Or.inl rfl | exact Or.inr rfl)))) (fun s H C cl fp => dTs_nil) (fun s H C cl fp => (dV_E (dE_callT call_tuple_of (Call1.op tuple_sem) rfl (T.m "tuple" (by decide)) PyProof.Rows.boot_tuple (dBs_cons (dB_name (pv 3)) dBs_nil) (by decide) (by decide)))))) dBs_nil) (by decide) (by decide))))))))

abbrev s__law_draw : Stmt := top 17
-- d__law_draw, sem__law_draw: the shared ones
theorem sc__law_draw : FnScope ["_law_pen_here", "_law_many", "_law_cell", "_law_digit", "_law_blend"] ["_law_pen_here", "_law_many"] (defScope s__law_draw) := ⟨rfl, rfl, rfl, by decide +kernel, rfl, by decide +kernel, by decide +kernel⟩
theorem ok__law_draw {P : Program} {w : World} {K : PySem.W.Frag} {mg : Str → Option Value} {base : Heap} (T : Txt mg) (TF : FieldsOk ⟨K, mg⟩ tbl) {f : Addr} {fd : FuncData} (F : Fun K "_law_draw" "_law_draw" s__law_draw f fd) (hm : mg "_law_draw" = some (.ref f)) : CalG P w K mg base 1 "_law_draw" ["_law_pen_here", "_law_many"] sem__law_draw :=
  ⟨f, fd, fn_G (k := 0) (N := ["_law_pen_here", "_law_many", "_law_cell", "_law_digit", "_law_blend"]) F sc__law_draw (by decide) (fun cdv A outer s H E hr => have sc := sc__law_draw
    (dS_cons (dS_put (fun _ _ _ h1 h2 h3 => ps_dput (huG hr) h1 h2 h3 rfl) (pv 0) dV_str (dV_E (de_opS op_addA add_sem (dE_V (dV_B (dB_subN (huG hr) (pv 0) dV_str (by intro _ _; rfl) (by intro _ _; rfl)))) (dB_V dV_int))))
    (dS_cons (dS_if (PW.pt (dT_and (dT_cmpS (op_eqD (huG64 hr)) eq_sem (dE_V (dV_B (dB_subN (huG hr) (pv 0) dV_str (by intro _ _; rfl) (by intro _ _; rfl)))) (dB_V dV_int) (nomark _)) (dT_and1 (dT_cmpS op_lt lt_sem (dE_V (dV_B (dB_subN (huG hr) (pv 0) dV_str (by intro _ _; rfl) (by intro _ _; rfl)))) (dB_E (dE_callB call_lenA (Call1.op len_sem) rfl (T.m "len" (by decide)) PySem.boot_len (dBs_cons (dB_subN (huG hr) (pv 0) dV_str (by intro _ _; rfl) (by intro _ _; rfl)) dBs_nil) (by decide) (by decide))) (nomark _))))) (dS_cons (dS_set (i := 2) (fun _ h => ps_set sc.nd rfl (by first | exact Or.inl rfl | exact Or.inr rfl) h) (dE_V (dV_B (dB_sub (huG hr) (dB_subN (huG hr) (pv 0) dV_str (by intro _ _; rfl) (by intro _ _; rfl)) (dV_no (dV_B (dB_subN (huG hr) (pv 0) dV_str (by intro _ _; rfl) (by intro _ _; rfl)))) (by intro _ _; rfl) (by intro _ _; rfl)))) (by decide))
    (dS_cons (dS_put (fun _ _ _ h1 h2 h3 => ps_dput (huG hr) h1 h2 h3 rfl) (pv 0) dV_str (dV_E (de_opS op_addA add_sem (dE_V (dV_B (dB_subN (huG hr) (pv 0) dV_str (by intro _ _; rfl) (by intro _ _; rfl)))) (dB_V dV_int))))
    (dS_one (dS_if (dT_cmpN op_ge ge_sem (pv 2) (dB_E (de_opS op_pow pow_sem (dE_V dV_int) (dB_V dV_int))) (nomark _)) (dS_one (dS_put (fun _ _ _ h1 h2 h3 => ps_dput (huG hr) h1 h2 h3 rfl) (pv 0) dV_str (dV_E (de_opN op_sub sub_sem (pv 2) (dB_E (de_opS op_pow pow_sem (dE_V dV_int) (dB_V dV_int))))))) (dS_one (dS_put (fun _ _ _ h1 h2 h3 => ps_dput (huG hr) h1 h2 h3 rfl) (pv 0) dV_str (dV_E (de_opS op_mod mod_sem (dE_callT call_int1 (Call1.op int_sem) rfl (T.m "int" (by decide)) PyProof.Rows.boot_int (dBs_cons (dB_E (de_opS op_addA add_sem (de_opS op_mulW mul_semI (dE_V (dV_B (dB_subN (huG hr) (pv 0) dV_str (by intro _ _; rfl) (by intro _ _; rfl)))) (dB_V dV_int)) (dB_name (pv 2)))) dBs_nil) (by decide) (by decide)) (dB_V dV_int))))))))) dS_nil)
    (dS_cons (dS_if (dT_cmpS op_gt gt_sem (dE_V (dV_B (dB_subN (huG hr) (pv 0) dV_str (by intro _ _; rfl) (by intro _ _; rfl)))) (dB_V dV_int) (nomark _)) (dS_cons (dS_set (i := 3) (fun _ h => ps_set sc.nd rfl (by first | exact Or.inl rfl | exact Or.inr rfl) h) (de_opS op_mod mod_sem (dE_callT call_int1 (Call1.op int_sem) rfl (T.m "int" (by decide)) PyProof.Rows.boot_int (dBs_cons (dB_subN (huG hr) (pv 0) dV_str (by intro _ _; rfl) (by intro _ _; rfl)) dBs_nil) (by decide) (by decide)) (dB_name (pv 1))) (by decide))
    (dS_cons (dS_put (fun _ _ _ h1 h2 h3 => ps_dput (huG hr) h1 h2 h3 rfl) (pv 0) dV_str (dV_E (de_opS op_fdivW div_sem (dE_V (dV_B (dB_subN (huG hr) (pv 0) dV_str (by intro _ _; rfl) (by intro _ _; rfl)))) (dB_name (pv 1)))))
    (dS_one (dS_ret (dE_nameM (pv 3)))))) dS_nil)
    (dS_cons (dS_set (i := 4) (fun _ h => ps_set sc.nd rfl (by first | exact Or.inl rfl | exact Or.inr rfl) h) (de_opS op_addA add_sem (de_opS op_addA add_sem (dE_V (dV_B (dB_subN (huG hr) (pv 0) dV_str (by intro _ _; rfl) (by intro _ _; rfl)))) (dB_E (de_opS op_mulW mul_semI (dE_V (dV_B (dB_subN (huG hr) (pv 0) dV_str (by intro _ _; rfl) (by intro _ _; rfl)))) (dB_V dV_int)))) (dB_V dV_int)) (by decide))
    (dS_one (dS_ret (de_opS op_mod mod_sem (de_opS op_fdivW div_sem (dE_callT call_int1 (Call1.op int_sem) rfl (T.m "int" (by decide)) PyProof.Rows.boot_int (dBs_cons (dB_E (de_opS op_mod mod_sem (de_opN op_pow pow_sem (pv 4) (dB_V dV_int)) (dB_V dV_int))) dBs_nil) (by decide) (by decide)) (dB_V dV_int)) (dB_name (pv 1)))))))))), hm, F.kp, F.binds fun _ _ _ _ _ _ us hl => match us, hl with | [_, _], _ => rfl⟩

abbrev s__law_pick : Stmt := top 18
-- d__law_pick, sem__law_pick: the shared ones
theorem sc__law_pick : FnScope ["_law_pen_here", "_law_some"] ["_law_pen_here", "_law_some"] (defScope s__law_pick) := ⟨rfl, rfl, rfl, by decide +kernel, rfl, by decide +kernel, by decide +kernel⟩
theorem ok__law_pick {P : Program} {w : World} {K : PySem.W.Frag} {mg : Str → Option Value} {base : Heap} (T : Txt mg) (TF : FieldsOk ⟨K, mg⟩ tbl) (c__law_draw : CalG P w K mg base 1 "_law_draw" ["_law_pen_here", "_law_many"] sem__law_draw) {f : Addr} {fd : FuncData} (F : Fun K "_law_pick" "_law_pick" s__law_pick f fd) (hm : mg "_law_pick" = some (.ref f)) : CalG P w K mg base 2 "_law_pick" ["_law_pen_here", "_law_some"] sem__law_pick :=
  ⟨f, fd, fn_G (k := 1) (N := ["_law_pen_here", "_law_some"]) F sc__law_pick (by decide) (fun cdv A outer s H E hr => have sc := sc__law_pick
    (dS_one (dS_ret (dE_V (dV_B (dB_subN (huG hr) (pv 1) (dV_E (de_callG c__law_draw hr (by decide) rfl (dA_slot (pv 0) (dA_push (dE_callB call_lenA (Call1.op len_sem) rfl (T.m "len" (by decide)) PySem.boot_len (dBs_cons (dB_name (pv 1)) dBs_nil) (by decide) (by decide)) dA_nil)))) (by intro _ _; rfl) (by intro _ _; rfl))))))), hm, F.kp, F.binds fun _ _ _ _ _ _ us hl => match us, hl with | [_, _], _ => rfl⟩

abbrev s_is_bit : Stmt := top 9
-- d_is_bit, sem_is_bit: the shared ones
theorem sc_is_bit : FnScope ["value"] ["value"] (defScope s_is_bit) := ⟨rfl, rfl, rfl, by decide +kernel, rfl, by decide +kernel, by decide +kernel⟩
theorem ok_is_bit {P : Program} {w : World} {K : PySem.W.Frag} {mg : Str → Option Value} {base : Heap} (T : Txt mg) (TF : FieldsOk ⟨K, mg⟩ tbl) (c_is_count : CalG P w K mg base 1 "is_count" ["value"] sem_is_count) {f : Addr} {fd : FuncData} (F : Fun K "is_bit" "is_bit" s_is_bit f fd) (hm : mg "is_bit" = some (.ref f)) : CalG P w K mg base 2 "is_bit" ["value"] sem_is_bit :=
  ⟨f, fd, fn_G (k := 1) (N := ["value"]) F sc_is_bit (by decide) (fun cdv A outer s H E hr => have sc := sc_is_bit
    (dS_one (dS_ret (dE_V (dV_and (dV_E (de_callG c_is_count hr (by decide) rfl (dA_slot (pv 0) dA_nil))) (dV_one (dV_E (de_cmpN op_lt lt_sem (pv 0) (dB_V dV_int) (nomark _))))))))), hm, F.kp, F.binds fun _ _ _ _ _ _ us hl => match us, hl with | [_], _ => rfl⟩

abbrev s_are_bits : Stmt := top 10
-- d_are_bits, sem_are_bits: the shared ones
theorem sc_are_bits : FnScope ["value", "many", "bit"] ["value", "many"] (defScope s_are_bits) := ⟨rfl, rfl, rfl, by decide +kernel, rfl, by decide +kernel, by decide +kernel⟩
theorem ok_are_bits {P : Program} {w : World} {K : PySem.W.Frag} {mg : Str → Option Value} {base : Heap} (T : Txt mg) (TF : FieldsOk ⟨K, mg⟩ tbl) (c_is_bit : CalG P w K mg base 2 "is_bit" ["value"] sem_is_bit) {f : Addr} {fd : FuncData} (F : Fun K "are_bits" "are_bits" s_are_bits f fd) (hm : mg "are_bits" = some (.ref f)) : CalG P w K mg base 3 "are_bits" ["value", "many"] sem_are_bits :=
  ⟨f, fd, fn_G (k := 2) (N := ["value", "many", "bit"]) F sc_are_bits (by decide) (fun cdv A outer s H E hr => have sc := sc_are_bits
    (dS_one (dS_ret (dE_V (dV_and (dV_isi2 (fun _ h => (pe_callB call_isiT rfl (T.m "isinstance" (by decide)) PyProof.Rows.boot_isinstance h)) (dB_name (pv 0)) (pe_bltn rfl (T.m "tuple" (by decide)) PyProof.Rows.boot_tuple rfl) (pe_bltn rfl (T.m "list" (by decide)) PyProof.Rows.boot_list rfl)) (dV_and (dV_E (de_cmpS (op_eqD (huG64 hr)) eq_sem (dE_callB call_lenA (Call1.op len_sem) rfl (T.m "len" (by decide)) PySem.boot_len (dBs_cons (dB_name (pv 0)) dBs_nil) (by decide) (by decide)) (dB_name (pv 1)) (nomark _))) (dV_one (dV_E (dE_callB (cr_all rfl) (Call1.op all_sem) rfl (T.m "all" (by decide)) PyProof.Rows.boot_all (dBs_cons (dB_E (dE_lc (W' := W0) (own := [("bit", 2)]) rfl sc.nd (blkOk_by (by rfl)) (dI_seq (fun h => pi_list h) (fun h => pi_tup h) (dV_nameV (pv 0))) (fun s H C cl fp => (dG_name (pg_name sc.nd rfl (by first | exact Or.inl rfl | exact Or.inr rfl)))) (fun s H C cl fp => dTs_nil) (fun s H C cl fp => (dV_E (de_callG c_is_bit hr (by decide) rfl (dA_slot (pv 2) dA_nil)))))) dBs_nil) (by decide) (by decide)))))))))), hm, F.kp, F.binds fun _ _ _ _ _ _ us hl => match us, hl with | [_, _], _ => rfl⟩

abbrev s_R_Machine___init__ : Stmt := inClass (top 12) 0
def d_R_Machine___init__ : MS :=
  (sSeq (sIf (mOrT (mMap (fun b => !b) (mTru (mMap (fun o => ((none : Option Nat), o)) (mCallF sem_is_count [some 2] (mHas 2 (mPure [])))))) (mBl (mOpN 2 (liftB fun i j => decide (j < i)) (mBind (mNameB 1) (fieldOf tbl "leaves"))))) (sRaise "BadNumber" ["what", "number"] (mCons (mPure (.str "inputs")) (mCons (mNameV 2) (mPure [])))) sNext)
  (sSeq (sIf (mMap (fun b => !b) (mTru (mMap (fun o => ((none : Option Nat), o)) (mPeek [1, 2, 3] (mCallF sem_are_bits [some 3, none] (mHas 3 (mConsO (mOpS (liftI subI) (mMap O.sh (mFldV tbl 1 "leaves")) (mNameB 2)) (mPure [])))))))) (sRaise "BadRow" ["row"] (mCons (mNameV 3) (mPure []))) sNext)
  (sSeq (sAsg 6 (mOpS addD (mOpS addD (mMap O.sh (mPure (.int 1))) (mBind (mNameB 1) (fieldOf tbl "leaves"))) (mMap (fun o => ((none : Option Nat), o)) (mCall (f1 lenD) (mConsB true (mBind (mNameB 1) (fieldOf tbl "gates")) (mPure []))))))
  (sSeq (sIf (mOrT (mMap (fun b => !b) (mTru (mMap (fun d => ((none : Option Nat), O.sh d)) (mIsi ["tuple", "list"] (mNameB 4))))) (mBl (mOpS neO (mCall (f1 lenD) (mConsB true (mNameB 4) (mPure []))) (mMap (fun o => ((none : Option Nat), o)) (mOpS (liftI subI) (mMap O.sh (mFldV tbl 1 "leaves")) (mNameB 2)))))) (sRaise "BadRow" ["row"] (mCons (mNameV 4) (mPure []))) sNext)
  (sSeq (sIf (mMap (fun b => !b) (mTru (mMap (fun o => ((none : Option Nat), o)) (mPeek [4, 6] (mCall (f1 allD) (mConsB true (mMap (fun o => ((none : Option Nat), o)) (mLc [7] (mBind (mNameV 4) seqD) (bName 7) (mPure true) (mMap O.toD (mCallF sem_is_literal [some 7, some 6] (mHas 7 (mHas 6 (mPure []))))))) (mPure []))))))) (sRaise "BadRow" ["row"] (mCons (mNameV 4) (mPure []))) sNext)
  (sSeq (sIf (mMap (fun b => !b) (mTru (mMap (fun o => ((none : Option Nat), o)) (mCallF sem_is_literal [some 5, some 6] (mHas 5 (mHas 6 (mPure []))))))) (sRaise "BadNumber" ["what", "number"] (mCons (mPure (.str "wish")) (mCons (mNameV 5) (mPure [])))) sNext)
  (sSeq (sFldX tbl 0 "graph" (mMap O.sh (mNameV 1)))
  (sSeq (sFldX tbl 0 "inputs" (mMap O.sh (mNameV 2)))
  (sSeq (sFldX tbl 0 "resets" (mCall (f1 tupleD) (mConsB true (mNameB 3) (mPure []))))
  (sSeq (sFldX tbl 0 "nexts" (mCall (f1 tupleD) (mConsB true (mNameB 4) (mPure []))))
  (sFldX tbl 0 "wish" (mMap O.sh (mNameV 5)))))))))))))
def sem_R_Machine___init__ : Sem := semX 8 6 [0, 1, 2, 3, 4, 5] d_R_Machine___init__
theorem sc_R_Machine___init__ : FnScope ["self", "graph", "inputs", "resets", "nexts", "wish", "nodes", "literal"] ["self", "graph", "inputs", "resets", "nexts", "wish"] (defScope s_R_Machine___init__) := ⟨rfl, rfl, rfl, by decide +kernel, rfl, by decide +kernel, by decide +kernel⟩
theorem ok_R_Machine___init__ {P : Program} {w : World} {K : PySem.W.Frag} {mg : Str → Option Value} {base : Heap} (T : Txt mg) (TF : FieldsOk ⟨K, mg⟩ tbl) (c_is_count : CalG P w K mg base 1 "is_count" ["value"] sem_is_count) (c_are_bits : CalG P w K mg base 3 "are_bits" ["value", "many"] sem_are_bits) (c_is_literal : CalG P w K mg base 2 "is_literal" ["value", "nodes"] sem_is_literal) {E_BadNumber : Addr} (e_BadNumber : PySem.ErrX.ErrFacts P w K mg E_BadNumber "BadNumber" ["what", "number"]) {E_BadRow : Addr} (e_BadRow : PySem.ErrX.ErrFacts P w K mg E_BadRow "BadRow" ["row"]) {f : Addr} {fd : FuncData} (F : Fun K "__init__" "Machine.__init__" s_R_Machine___init__ f fd) : FnG P w K mg base (L2.CX P w) 4 f fd ["self", "graph", "inputs", "resets", "nexts", "wish"] (spX ⟨K, mg⟩ 6 sem_R_Machine___init__) :=
  fn_GX (k := 3) (N := ["self", "graph", "inputs", "resets", "nexts", "wish", "nodes", "literal"]) F sc_R_Machine___init__ (by decide) (fun cdv A outer s H E hr => have sc := sc_R_Machine___init__
    (dS_cons (dS_if (PW.pt (dT_or (dT_not (dT_tru (dB_E (de_callG c_is_count hr (by decide) rfl (dA_slot (pv 2) dA_nil))))) (dT_or1 (dT_cmpN op_gt gt_sem (pv 2) (dB_fld TF (dB_name (pv 1))) (nomark _))))) (dS_one (dS_raise e_BadNumber rfl hr (takes_of rfl rfl rfl rfl) rfl (dVs_cons dV_str (dVs_cons (dV_nameV (pv 2)) dVs_nil)))) dS_nil)
    (dS_cons (dS_if (dT_not (dT_tru (dB_E (dE_peek (vs := [1, 2, 3]) (de_callG c_are_bits hr (by decide) rfl (dA_slot (pv 3) (dA_push (de_opS op_sub sub_sem (dE_V (dV_fldX TF (pv 1))) (dB_name (pv 2))) dA_nil))))))) (dS_one (dS_raise e_BadRow rfl hr (takes_of rfl rfl rfl rfl) rfl (dVs_cons (dV_nameV (pv 3)) dVs_nil))) dS_nil)
    (dS_cons (dS_set (i := 6) (fun _ h => ps_set sc.nd rfl (by first | exact Or.inl rfl | exact Or.inr rfl) h) (de_opS op_addA add_sem (de_opS op_addA add_sem (dE_V dV_int) (dB_fld TF (dB_name (pv 1)))) (dB_E (dE_callB call_lenA (Call1.op len_sem) rfl (T.m "len" (by decide)) PySem.boot_len (dBs_cons (dB_fld TF (dB_name (pv 1))) dBs_nil) (by decide) (by decide)))) (by decide))
    (dS_cons (dS_if (PW.pt (dT_or (dT_not (dT_tru (dB_V (dV_isi2 (fun _ h => (pe_callB call_isiT rfl (T.m "isinstance" (by decide)) PyProof.Rows.boot_isinstance h)) (dB_name (pv 4)) (pe_bltn rfl (T.m "tuple" (by decide)) PyProof.Rows.boot_tuple rfl) (pe_bltn rfl (T.m "list" (by decide)) PyProof.Rows.boot_list rfl))))) (dT_or1 (dT_cmpS (op_neD (huG64 hr)) ne_sem (dE_callB call_lenA (Call1.op len_sem) rfl (T.m "len" (by decide)) PySem.boot_len (dBs_cons (dB_name (pv 4)) dBs_nil) (by decide) (by decide)) (dB_E (de_opS op_sub sub_sem (dE_V (dV_fldX TF (pv 1))) (dB_name (pv 2)))) (nomark _))))) (dS_one (dS_raise e_BadRow rfl hr (takes_of rfl rfl rfl rfl) rfl (dVs_cons (dV_nameV (pv 4)) dVs_nil))) dS_nil)
    (dS_cons (dS_if (dT_not (dT_tru (dB_E (dE_peek (vs := [4, 6]) (dE_callB (cr_all rfl) (Call1.op all_sem) rfl (T.m "all" (by decide)) PyProof.Rows.boot_all (dBs_cons (dB_E (dE_lc (W' := W0) (own := [("literal", 7)]) rfl sc.nd (blkOk_by (by rfl)) (dI_seq (fun h => pi_list h) (fun h => pi_tup h) (dV_nameV (pv 4))) (fun s H C cl fp => (dG_name (pg_name sc.nd rfl (by first | exact Or.inl rfl | exact Or.inr rfl)))) (fun s H C cl fp => dTs_nil) (fun s H C cl fp => (dV_E (de_callG c_is_literal hr (by decide) rfl (dA_slot (pv 7) (dA_slot (pv 6) dA_nil))))))) dBs_nil) (by decide) (by decide)))))) (dS_one (dS_raise e_BadRow rfl hr (takes_of rfl rfl rfl rfl) rfl (dVs_cons (dV_nameV (pv 4)) dVs_nil))) dS_nil)
    (dS_cons (dS_if (dT_not (dT_tru (dB_E (de_callG c_is_literal hr (by decide) rfl (dA_slot (pv 5) (dA_slot (pv 6) dA_nil)))))) (dS_one (dS_raise e_BadNumber rfl hr (takes_of rfl rfl rfl rfl) rfl (dVs_cons dV_str (dVs_cons (dV_nameV (pv 5)) dVs_nil)))) dS_nil)
    (dS_cons (dS_fldX TF (fun _ _ h1 h2 => ps_fld h1 h2 rfl) (pv 0) (dE_V (dV_nameV (pv 1))))
    (dS_cons (dS_fldX TF (fun _ _ h1 h2 => ps_fld h1 h2 rfl) (pv 0) (dE_V (dV_nameV (pv 2))))
    (dS_cons (dS_fldX TF (fun _ _ h1 h2 => ps_fld h1 h2 rfl) (pv 0) (dE_callT call_tuple_of (Call1.op tuple_sem) rfl (T.m "tuple" (by decide)) PyProof.Rows.boot_tuple (dBs_cons (dB_name (pv 3)) dBs_nil) (by decide) (by decide)))
    (dS_cons (dS_fldX TF (fun _ _ h1 h2 => ps_fld h1 h2 rfl) (pv 0) (dE_callT call_tuple_of (Call1.op tuple_sem) rfl (T.m "tuple" (by decide)) PyProof.Rows.boot_tuple (dBs_cons (dB_name (pv 4)) dBs_nil) (by decide) (by decide)))
    (dS_one (dS_fldX TF (fun _ _ h1 h2 => ps_fld h1 h2 rfl) (pv 0) (dE_V (dV_nameV (pv 5))))))))))))))))

abbrev s_Machine___init__ : Stmt := inClass (top 12) 0
def d_Machine___init__ : MS :=
  (sSeq (sIf (mOrT (mMap (fun b => !b) (mTru (mMap (fun o => ((none : Option Nat), o)) (mCallF sem_is_count [some 2] (mHas 2 (mPure [])))))) (mBl (mOpN 2 (liftB fun i j => decide (j < i)) (mBind (mNameB 1) (fieldOf tbl "leaves"))))) sBad sNext)
  (sSeq (sIf (mMap (fun b => !b) (mTru (mMap (fun o => ((none : Option Nat), o)) (mPeek [1, 2, 3] (mCallF sem_are_bits [some 3, none] (mHas 3 (mConsO (mOpS (liftI subI) (mMap O.sh (mFldV tbl 1 "leaves")) (mNameB 2)) (mPure [])))))))) sBad sNext)
  (sSeq (sAsg 6 (mOpS addD (mOpS addD (mMap O.sh (mPure (.int 1))) (mBind (mNameB 1) (fieldOf tbl "leaves"))) (mMap (fun o => ((none : Option Nat), o)) (mCall (f1 lenD) (mConsB true (mBind (mNameB 1) (fieldOf tbl "gates")) (mPure []))))))
  (sSeq (sIf (mOrT (mMap (fun b => !b) (mTru (mMap (fun d => ((none : Option Nat), O.sh d)) (mIsi ["tuple", "list"] (mNameB 4))))) (mBl (mOpS neO (mCall (f1 lenD) (mConsB true (mNameB 4) (mPure []))) (mMap (fun o => ((none : Option Nat), o)) (mOpS (liftI subI) (mMap O.sh (mFldV tbl 1 "leaves")) (mNameB 2)))))) sBad sNext)
  (sSeq (sIf (mMap (fun b => !b) (mTru (mMap (fun o => ((none : Option Nat), o)) (mPeek [4, 6] (mCall (f1 allD) (mConsB true (mMap (fun o => ((none : Option Nat), o)) (mLc [7] (mBind (mNameV 4) seqD) (bName 7) (mPure true) (mMap O.toD (mCallF sem_is_literal [some 7, some 6] (mHas 7 (mHas 6 (mPure []))))))) (mPure []))))))) sBad sNext)
  (sSeq (sIf (mMap (fun b => !b) (mTru (mMap (fun o => ((none : Option Nat), o)) (mCallF sem_is_literal [some 5, some 6] (mHas 5 (mHas 6 (mPure []))))))) sBad sNext)
  (sSeq (sFldX tbl 0 "graph" (mMap O.sh (mNameV 1)))
  (sSeq (sFldX tbl 0 "inputs" (mMap O.sh (mNameV 2)))
  (sSeq (sFldX tbl 0 "resets" (mCall (f1 tupleD) (mConsB true (mNameB 3) (mPure []))))
  (sSeq (sFldX tbl 0 "nexts" (mCall (f1 tupleD) (mConsB true (mNameB 4) (mPure []))))
  (sFldX tbl 0 "wish" (mMap O.sh (mNameV 5)))))))))))))
def sem_Machine___init__ : Sem := semOf 8 6 [0, 1, 2, 3, 4, 5] d_Machine___init__
theorem sc_Machine___init__ : FnScope ["self", "graph", "inputs", "resets", "nexts", "wish", "nodes", "literal"] ["self", "graph", "inputs", "resets", "nexts", "wish"] (defScope s_Machine___init__) := ⟨rfl, rfl, rfl, by decide +kernel, rfl, by decide +kernel, by decide +kernel⟩
theorem ok_Machine___init__ {P : Program} {w : World} {K : PySem.W.Frag} {mg : Str → Option Value} {base : Heap} (T : Txt mg) (TF : FieldsOk ⟨K, mg⟩ tbl) (c_is_count : CalG P w K mg base 1 "is_count" ["value"] sem_is_count) (c_are_bits : CalG P w K mg base 3 "are_bits" ["value", "many"] sem_are_bits) (c_is_literal : CalG P w K mg base 2 "is_literal" ["value", "nodes"] sem_is_literal) {f : Addr} {fd : FuncData} (F : Fun K "__init__" "Machine.__init__" s_Machine___init__ f fd) : FnG P w K mg base CX0 4 f fd ["self", "graph", "inputs", "resets", "nexts", "wish"] (spX ⟨K, mg⟩ 6 sem_Machine___init__) :=
  fn_G (k := 3) (N := ["self", "graph", "inputs", "resets", "nexts", "wish", "nodes", "literal"]) F sc_Machine___init__ (by decide) (fun cdv A outer s H E hr => have sc := sc_Machine___init__
    (dS_cons (dS_if (PW.pt (dT_or (dT_not (dT_tru (dB_E (de_callG c_is_count hr (by decide) rfl (dA_slot (pv 2) dA_nil))))) (dT_or1 (dT_cmpN op_gt gt_sem (pv 2) (dB_fld TF (dB_name (pv 1))) (nomark _))))) (dS_one dS_bad) dS_nil)
    (dS_cons (dS_if (dT_not (dT_tru (dB_E (dE_peek (vs := [1, 2, 3]) (de_callG c_are_bits hr (by decide) rfl (dA_slot (pv 3) (dA_push (de_opS op_sub sub_sem (dE_V (dV_fldX TF (pv 1))) (dB_name (pv 2))) dA_nil))))))) (dS_one dS_bad) dS_nil)
    (dS_cons (dS_set (i := 6) (fun _ h => ps_set sc.nd rfl (by first | exact Or.inl rfl | exact Or.inr rfl) h) (de_opS op_addA add_sem (de_opS op_addA add_sem (dE_V dV_int) (dB_fld TF (dB_name (pv 1)))) (dB_E (dE_callB call_lenA (Call1.op len_sem) rfl (T.m "len" (by decide)) PySem.boot_len (dBs_cons (dB_fld TF (dB_name (pv 1))) dBs_nil) (by decide) (by decide)))) (by decide))
    (dS_cons (dS_if (PW.pt (dT_or (dT_not (dT_tru (dB_V (dV_isi2 (fun _ h => (pe_callB call_isiT rfl (T.m "isinstance" (by decide)) PyProof.Rows.boot_isinstance h)) (dB_name (pv 4)) (pe_bltn rfl (T.m "tuple" (by decide)) PyProof.Rows.boot_tuple rfl) (pe_bltn rfl (T.m "list" (by decide)) PyProof.Rows.boot_list rfl))))) (dT_or1 (dT_cmpS (op_neD (huG64 hr)) ne_sem (dE_callB call_lenA (Call1.op len_sem) rfl (T.m "len" (by decide)) PySem.boot_len (dBs_cons (dB_name (pv 4)) dBs_nil) (by decide) (by decide)) (dB_E (de_opS op_sub sub_sem (dE_V (dV_fldX TF (pv 1))) (dB_name (pv 2)))) (nomark _))))) (dS_one dS_bad) dS_nil)
    (dS_cons (dS_if (dT_not (dT_tru (dB_E (dE_peek (vs := [4, 6]) (dE_callB (cr_all rfl) (Call1.op all_sem) rfl (T.m "all" (by decide)) PyProof.Rows.boot_all (dBs_cons (dB_E (dE_lc (W' := W0) (own := [("literal", 7)]) rfl sc.nd (blkOk_by (by rfl)) (dI_seq (fun h => pi_list h) (fun h => pi_tup h) (dV_nameV (pv 4))) (fun s H C cl fp => (dG_name (pg_name sc.nd rfl (by first | exact Or.inl rfl | exact Or.inr rfl)))) (fun s H C cl fp => dTs_nil) (fun s H C cl fp => (dV_E (de_callG c_is_literal hr (by decide) rfl (dA_slot (pv 7) (dA_slot (pv 6) dA_nil))))))) dBs_nil) (by decide) (by decide)))))) (dS_one dS_bad) dS_nil)
    (dS_cons (dS_if (dT_not (dT_tru (dB_E (de_callG c_is_literal hr (by decide) rfl (dA_slot (pv 5) (dA_slot (pv 6) dA_nil)))))) (dS_one dS_bad) dS_nil)
    (dS_cons (dS_fldX TF (fun _ _ h1 h2 => ps_fld h1 h2 rfl) (pv 0) (dE_V (dV_nameV (pv 1))))
    (dS_cons (dS_fldX TF (fun _ _ h1 h2 => ps_fld h1 h2 rfl) (pv 0) (dE_V (dV_nameV (pv 2))))
    (dS_cons (dS_fldX TF (fun _ _ h1 h2 => ps_fld h1 h2 rfl) (pv 0) (dE_callT call_tuple_of (Call1.op tuple_sem) rfl (T.m "tuple" (by decide)) PyProof.Rows.boot_tuple (dBs_cons (dB_name (pv 3)) dBs_nil) (by decide) (by decide)))
    (dS_cons (dS_fldX TF (fun _ _ h1 h2 => ps_fld h1 h2 rfl) (pv 0) (dE_callT call_tuple_of (Call1.op tuple_sem) rfl (T.m "tuple" (by decide)) PyProof.Rows.boot_tuple (dBs_cons (dB_name (pv 4)) dBs_nil) (by decide) (by decide)))
    (dS_one (dS_fldX TF (fun _ _ h1 h2 => ps_fld h1 h2 rfl) (pv 0) (dE_V (dV_nameV (pv 5))))))))))))))))

abbrev s_Graph___eq__ : Stmt := inClass (top 8) 1
def d_Graph___eq__ : MS :=
  (sRet (mMap O.sh (mAndV (mIsC "Graph" (mNameB 1)) (mAndV (mMap O.toD (mOpS eqO (mMap O.sh (mFldV tbl 0 "leaves")) (mBind (mNameB 1) (fieldOf tbl "leaves")))) (mMap O.toD (mOpS eqO (mMap O.sh (mFldV tbl 0 "gates")) (mBind (mNameB 1) (fieldOf tbl "gates"))))))))
def sem_Graph___eq__ : Sem := semOf 2 2 [0, 1] d_Graph___eq__
theorem sc_Graph___eq__ : FnScope ["self", "other"] ["self", "other"] (defScope s_Graph___eq__) := ⟨rfl, rfl, rfl, by decide +kernel, rfl, by decide +kernel, by decide +kernel⟩
theorem ok_Graph___eq__ {P : Program} {w : World} {K : PySem.W.Frag} {mg : Str → Option Value} {base : Heap} (T : Txt mg) (TF : FieldsOk ⟨K, mg⟩ tbl) (ic_Graph : IsC K mg "Graph") {f : Addr} {fd : FuncData} (F : Fun K "__eq__" "Graph.__eq__" s_Graph___eq__ f fd) : FnG P w K mg base CX0 1 f fd ["self", "other"] (spX ⟨K, mg⟩ 2 sem_Graph___eq__) :=
  fn_G (k := 0) (N := ["self", "other"]) F sc_Graph___eq__ (by decide) (fun cdv A outer s H E hr => have sc := sc_Graph___eq__
    (dS_one (dS_ret (dE_V (dV_and (dV_isC ic_Graph (fun _ h => (pe_callB call_isi rfl (T.m "isinstance" (by decide)) PyProof.Rows.boot_isinstance h)) (dB_name (pv 1)) rfl) (dV_and (dV_E (de_cmpS (op_eqD (huG64 hr)) eq_sem (dE_V (dV_fldX TF (pv 0))) (dB_fld TF (dB_name (pv 1))) (nomark _))) (dV_one (dV_E (de_cmpS (op_eqD (huG64 hr)) eq_sem (dE_V (dV_fldX TF (pv 0))) (dB_fld TF (dB_name (pv 1))) (nomark _))))))))))

abbrev s_Machine___eq__ : Stmt := inClass (top 12) 1
def d_Machine___eq__ : MS :=
  (sSeq (sIf (mOrT (mMap (fun b => !b) (mTru (mMap (fun d => ((none : Option Nat), O.sh d)) (mIsC2 "Machine" "Graph" (mNameB 1))))) (mMap (fun b => !b) (mBl (mEqX "Graph" sem_Graph___eq__ (mMap O.sh (mFldV tbl 0 "graph")) (mMap O.sh (mFldV tbl 1 "graph")))))) (sRet (mMap O.sh (mPure (.bl false)))) sNext)
  (sSeq (sAsg 2 (mMap O.sh (mTup (mCons (mFldV tbl 0 "inputs") (mCons (mFldV tbl 0 "resets") (mCons (mFldV tbl 0 "nexts") (mCons (mFldV tbl 0 "wish") (mPure []))))))))
  (sRet (mOpN 2 eqO (mMap (fun d => ((none : Option Nat), O.sh d)) (mTup (mCons (mFldV tbl 1 "inputs") (mCons (mFldV tbl 1 "resets") (mCons (mFldV tbl 1 "nexts") (mCons (mFldV tbl 1 "wish") (mPure [])))))))))))
def sem_Machine___eq__ : Sem := semOf 3 2 [0, 1] d_Machine___eq__
theorem sc_Machine___eq__ : FnScope ["self", "other", "own"] ["self", "other"] (defScope s_Machine___eq__) := ⟨rfl, rfl, rfl, by decide +kernel, rfl, by decide +kernel, by decide +kernel⟩
theorem ok_Machine___eq__ {P : Program} {w : World} {K : PySem.W.Frag} {mg : Str → Option Value} {base : Heap} (T : Txt mg) (TF : FieldsOk ⟨K, mg⟩ tbl) (c_Graph___eq__ : MetG P w K mg base 1 "Graph" "__eq__" ["self", "other"] sem_Graph___eq__) (ic_Graph : IsC K mg "Graph") (ic_Machine : IsC K mg "Machine") (kn_Machine_Graph : KitNo K mg "Machine" "Graph") {f : Addr} {fd : FuncData} (F : Fun K "__eq__" "Machine.__eq__" s_Machine___eq__ f fd) : FnG P w K mg base CX0 2 f fd ["self", "other"] (spX ⟨K, mg⟩ 2 sem_Machine___eq__) :=
  fn_G (k := 1) (N := ["self", "other", "own"]) F sc_Machine___eq__ (by decide) (fun cdv A outer s H E hr => have sc := sc_Machine___eq__
    (dS_cons (dS_if (PW.pt (dT_or (dT_not (dT_tru (dB_V (dV_isC2 ic_Machine ic_Graph kn_Machine_Graph (fun _ h => (pe_callB call_isi rfl (T.m "isinstance" (by decide)) PyProof.Rows.boot_isinstance h)) (dB_name (pv 1)) rfl)))) (dT_or1 (dT_not (dT_eqX c_Graph___eq__ hr (by decide) (dE_V (dV_fldX TF (pv 0))) (dE_V (dV_fldX TF (pv 1))) (nomark _)))))) (dS_one (dS_ret (dE_V dV_bl))) dS_nil)
    (dS_cons (dS_set (i := 2) (fun _ h => ps_set sc.nd rfl (by first | exact Or.inl rfl | exact Or.inr rfl) h) (dE_V (dV_tup (dVs_cons (dV_fldX TF (pv 0)) (dVs_cons (dV_fldX TF (pv 0)) (dVs_cons (dV_fldX TF (pv 0)) (dVs_cons (dV_fldX TF (pv 0)) dVs_nil)))))) (by decide))
    (dS_one (dS_ret (de_cmpN (op_eqD (huG64 hr)) eq_sem (pv 2) (dB_V (dV_tup (dVs_cons (dV_fldX TF (pv 1)) (dVs_cons (dV_fldX TF (pv 1)) (dVs_cons (dV_fldX TF (pv 1)) (dVs_cons (dV_fldX TF (pv 1)) dVs_nil)))))) (nomark _)))))))

abbrev s_as_given : Stmt := top 14
def d_as_given : MS :=
  (sRet (mIf (mTru (mMap (fun d => ((none : Option Nat), O.sh d)) (mIsi ["list"] (mNameB 0)))) (mCall (f1 tupleD) (mConsB true (mNameB 0) (mPure []))) (mMap O.sh (mNameV 0))))
def sem_as_given : Sem := semOf 1 1 [0] d_as_given
theorem sc_as_given : FnScope ["value"] ["value"] (defScope s_as_given) := ⟨rfl, rfl, rfl, by decide +kernel, rfl, by decide +kernel, by decide +kernel⟩
theorem ok_as_given {P : Program} {w : World} {K : PySem.W.Frag} {mg : Str → Option Value} {base : Heap} (T : Txt mg) (TF : FieldsOk ⟨K, mg⟩ tbl) {f : Addr} {fd : FuncData} (F : Fun K "as_given" "as_given" s_as_given f fd) (hm : mg "as_given" = some (.ref f)) : CalG P w K mg base 1 "as_given" ["value"] sem_as_given :=
  ⟨f, fd, fn_G (k := 0) (N := ["value"]) F sc_as_given (by decide) (fun cdv A outer s H E hr => have sc := sc_as_given
    (dS_one (dS_ret (dE_if (dT_tru (dB_V (dV_isi1 (fun _ h => (pe_callB call_isi rfl (T.m "isinstance" (by decide)) PyProof.Rows.boot_isinstance h)) (dB_name (pv 0)) (pe_bltn rfl (T.m "list" (by decide)) PyProof.Rows.boot_list rfl)))) (dE_callT call_tuple_of (Call1.op tuple_sem) rfl (T.m "tuple" (by decide)) PyProof.Rows.boot_tuple (dBs_cons (dB_name (pv 0)) dBs_nil) (by decide) (by decide)) (dE_V (dV_nameV (pv 0))))))), hm, F.kp, F.binds fun _ _ _ _ _ _ us hl => match us, hl with | [_], _ => rfl⟩

abbrev s_Unrolled___init__ : Stmt := inClass (top 13) 0
def d_Unrolled___init__ : MS :=
  (sSeq (sFldX tbl 0 "graph" (mMap O.sh (mNameV 1)))
  (sSeq (sFldX tbl 0 "states" (mCallF sem_as_given [some 2] (mHas 2 (mPure []))))
  (sFldX tbl 0 "wishes" (mCallF sem_as_given [some 3] (mHas 3 (mPure []))))))
def sem_Unrolled___init__ : Sem := semOf 4 4 [0, 1, 2, 3] d_Unrolled___init__
theorem sc_Unrolled___init__ : FnScope ["self", "graph", "states", "wishes"] ["self", "graph", "states", "wishes"] (defScope s_Unrolled___init__) := ⟨rfl, rfl, rfl, by decide +kernel, rfl, by decide +kernel, by decide +kernel⟩
theorem ok_Unrolled___init__ {P : Program} {w : World} {K : PySem.W.Frag} {mg : Str → Option Value} {base : Heap} (T : Txt mg) (TF : FieldsOk ⟨K, mg⟩ tbl) (c_as_given : CalG P w K mg base 1 "as_given" ["value"] sem_as_given) {f : Addr} {fd : FuncData} (F : Fun K "__init__" "Unrolled.__init__" s_Unrolled___init__ f fd) : FnG P w K mg base CX0 2 f fd ["self", "graph", "states", "wishes"] (spX ⟨K, mg⟩ 4 sem_Unrolled___init__) :=
  fn_G (k := 1) (N := ["self", "graph", "states", "wishes"]) F sc_Unrolled___init__ (by decide) (fun cdv A outer s H E hr => have sc := sc_Unrolled___init__
    (dS_cons (dS_fldX TF (fun _ _ h1 h2 => ps_fld h1 h2 rfl) (pv 0) (dE_V (dV_nameV (pv 1))))
    (dS_cons (dS_fldX TF (fun _ _ h1 h2 => ps_fld h1 h2 rfl) (pv 0) (de_callG c_as_given hr (by decide) rfl (dA_slot (pv 2) dA_nil)))
    (dS_one (dS_fldX TF (fun _ _ h1 h2 => ps_fld h1 h2 rfl) (pv 0) (de_callG c_as_given hr (by decide) rfl (dA_slot (pv 3) dA_nil)))))))

abbrev s_law : Stmt := top 20
def d_law : MS :=
  (sSeq (sAsg 1 (mCallF sem__law_pen [some 0] (mHas 0 (mPure []))))
  (sSeq (sAsg 2 (mMakeX "Graph" sem_Graph___init__ [none, none] (mConsO (mMap O.sh (mPure (.int 3))) (mConsO (mLst (mCons (mTup (mCons (mPure (.int 4)) (mCons (mPure (.int 2)) (mPure [])))) (mCons (mTup (mCons (mPure (.int 9)) (mCons (mPure (.int 7)) (mPure [])))) (mPure [])))) (mPure [])))))
  (sSeq (sAsg 3 (mCallF sem__law_pick [some 1, none] (mHas 1 (mConsO (mLst (mCons (mNeg (mPure (.int 1))) (mCons (mPure (.int 4)) (mCons (mPure .non) (mCons (mPure (.bl true)) (mCons (mPure (.str "1")) (mCons (mTup (mCons (mPure (.int 1)) (mPure []))) (mPure [])))))))) (mPure [])))))
  (sSeq (sAsg 4 (mCallF sem__law_pick [some 1, none] (mHas 1 (mConsO (mLst (mCons (mPure .non) (mCons (mPure (.int 5)) (mCons (mTup (mCons (mPure (.int 0)) (mPure []))) (mCons (mTup (mCons (mPure (.int 0)) (mCons (mPure (.int 1)) (mCons (mPure (.int 1)) (mPure []))))) (mCons (mTup (mCons (mPure (.int 0)) (mCons (mPure (.int 2)) (mPure [])))) (mCons (mTup (mCons (mPure (.bl true)) (mCons (mPure (.int 0)) (mPure [])))) (mCons (mPure (.str "01")) (mCons (mTup (mCons (mPure (.int 0)) (mCons (mPure .non) (mPure [])))) (mPure [])))))))))) (mPure [])))))
  (sSeq (sAsg 5 (mCallF sem__law_pick [some 1, none] (mHas 1 (mConsO (mLst (mCons (mPure .non) (mCons (mPure (.int 5)) (mCons (mTup (mCons (mPure (.int 8)) (mPure []))) (mCons (mTup (mCons (mPure (.int 8)) (mCons (mPure (.int 10)) (mCons (mPure (.int 2)) (mPure []))))) (mCons (mTup (mCons (mPure (.int 8)) (mCons (mPure (.int 12)) (mPure [])))) (mCons (mTup (mCons (mPure (.int 8)) (mCons (mNeg (mPure (.int 1))) (mPure [])))) (mCons (mTup (mCons (mPure (.int 8)) (mCons (mPure (.bl true)) (mPure [])))) (mCons (mPure (.str "ab")) (mCons (mTup (mCons (mPure (.int 8)) (mCons (mPure .non) (mPure [])))) (mPure []))))))))))) (mPure [])))))
  (sSeq (sAsg 6 (mCallF sem__law_pick [some 1, none] (mHas 1 (mConsO (mLst (mCons (mNeg (mPure (.int 1))) (mCons (mPure (.int 12)) (mCons (mPure .non) (mCons (mPure (.bl true)) (mCons (mPure (.str "2")) (mCons (mTup (mCons (mPure (.int 2)) (mPure []))) (mPure [])))))))) (mPure [])))))
  (sSeq (sIf (mBl (mOpS neO (mWhy [("BadNumber", [.str "number", .fld "what", .rep "number"]), ("BadRow", [.str "row", .rep "row"])] (mMakeX "Machine" sem_R_Machine___init__ [some 2, some 3, some 4, some 5, some 6] (mHas 2 (mHas 3 (mHas 4 (mHas 5 (mHas 6 (mPure [])))))))) (mMap (fun d => ((none : Option Nat), O.sh d)) (mTup (mCons (mPure (.str "number")) (mCons (mPure (.str "inputs")) (mCons (mMap O.toD (mCall (f1 reprD) (mConsB true (mNameB 3) (mPure [])))) (mPure [])))))))) (sRet (mMap O.sh (mPure (.bl false)))) sNext)
  (sSeq (sIf (mBl (mOpS neO (mWhy [("BadNumber", [.str "number", .fld "what", .rep "number"]), ("BadRow", [.str "row", .rep "row"])] (mMakeX "Machine" sem_R_Machine___init__ [some 2, none, some 4, some 5, some 6] (mHas 2 (mConsO (mMap O.sh (mPure (.int 1))) (mHas 4 (mHas 5 (mHas 6 (mPure [])))))))) (mMap (fun d => ((none : Option Nat), O.sh d)) (mTup (mCons (mPure (.str "row")) (mCons (mMap O.toD (mCall (f1 reprD) (mConsB true (mNameB 4) (mPure [])))) (mPure []))))))) (sRet (mMap O.sh (mPure (.bl false)))) sNext)
  (sSeq (sIf (mBl (mOpS neO (mWhy [("BadNumber", [.str "number", .fld "what", .rep "number"]), ("BadRow", [.str "row", .rep "row"])] (mMakeX "Machine" sem_R_Machine___init__ [some 2, none, none, some 5, some 6] (mHas 2 (mConsO (mMap O.sh (mPure (.int 1))) (mConsO (mMap O.sh (mTup (mCons (mPure (.int 0)) (mCons (mPure (.int 1)) (mPure []))))) (mHas 5 (mHas 6 (mPure [])))))))) (mMap (fun d => ((none : Option Nat), O.sh d)) (mTup (mCons (mPure (.str "row")) (mCons (mMap O.toD (mCall (f1 reprD) (mConsB true (mNameB 5) (mPure [])))) (mPure []))))))) (sRet (mMap O.sh (mPure (.bl false)))) sNext)
  (sSeq (sIf (mBl (mOpS neO (mWhy [("BadNumber", [.str "number", .fld "what", .rep "number"]), ("BadRow", [.str "row", .rep "row"])] (mMakeX "Machine" sem_R_Machine___init__ [some 2, none, none, none, some 6] (mHas 2 (mConsO (mMap O.sh (mPure (.int 1))) (mConsO (mMap O.sh (mTup (mCons (mPure (.int 0)) (mCons (mPure (.int 1)) (mPure []))))) (mConsO (mMap O.sh (mTup (mCons (mPure (.int 8)) (mCons (mPure (.int 10)) (mPure []))))) (mHas 6 (mPure [])))))))) (mMap (fun d => ((none : Option Nat), O.sh d)) (mTup (mCons (mPure (.str "number")) (mCons (mPure (.str "wish")) (mCons (mMap O.toD (mCall (f1 reprD) (mConsB true (mNameB 6) (mPure [])))) (mPure [])))))))) (sRet (mMap O.sh (mPure (.bl false)))) sNext)
  (sSeq (sPar 7 8 (mConsO (mLst (mCons (mMap O.toD (mCallF sem__law_draw [some 1, none] (mHas 1 (mConsO (mMap O.sh (mPure (.int 2))) (mPure []))))) (mCons (mPure (.int 1)) (mPure [])))) (mConsO (mLst (mCons (mMap O.toD (mCallF sem__law_draw [some 1, none] (mHas 1 (mConsO (mMap O.sh (mPure (.int 12))) (mPure []))))) (mCons (mPure (.int 11)) (mPure [])))) (mPure []))))
  (sSeq (sAsg 9 (mMap O.sh (mTup (mCons (mMap O.toD (mCall (f1 tupleD) (mConsB true (mNameB 7) (mPure [])))) (mCons (mMap O.toD (mCall (f1 tupleD) (mConsB true (mNameB 8) (mPure [])))) (mPure []))))))
  (sSeq (sAsg 10 (mMakeX "Machine" sem_Machine___init__ [some 2, none, some 7, some 8, none] (mHas 2 (mConsO (mMap O.sh (mPure (.int 1))) (mHas 7 (mHas 8 (mConsO (mMap O.sh (mPure (.int 11))) (mPure []))))))))
  (sSeq (sPut2L 7 8 1 1 (mTup (mCons (mPure (.int 0)) (mCons (mPure (.int 0)) (mPure [])))))
  (sSeq (sIf (mOrT (mBl (mOpS neO (mMap O.sh (mTup (mCons (mFldV tbl 10 "resets") (mCons (mFldV tbl 10 "nexts") (mPure []))))) (mNameB 9))) (mOrT (mBl (mOpS neO (mMap O.sh (mTup (mCons (mFldV tbl 10 "inputs") (mCons (mFldV tbl 10 "wish") (mPure []))))) (mMap (fun d => ((none : Option Nat), O.sh d)) (mTup (mCons (mPure (.int 1)) (mCons (mPure (.int 11)) (mPure []))))))) (mMap (fun b => !b) (mBl (mEqX "Graph" sem_Graph___eq__ (mMap O.sh (mFldV tbl 10 "graph")) (mMap O.sh (mNameV 2))))))) (sRet (mMap O.sh (mPure (.bl false)))) sNext)
  (sSeq (sIf (mOrT (mMap (fun b => !b) (mBl (mEqX "Machine" sem_Machine___eq__ (mMap O.sh (mNameV 10)) (mMap O.sh (mMap O.toD (mMakeX "Machine" sem_Machine___init__ [none, none, none, none, none] (mConsO (mMakeX "Graph" sem_Graph___init__ [none, none] (mConsO (mMap O.sh (mPure (.int 3))) (mConsO (mLst (mCons (mMap O.toD (mLst (mCons (mPure (.int 4)) (mCons (mPure (.int 2)) (mPure []))))) (mCons (mMap O.toD (mLst (mCons (mPure (.int 9)) (mCons (mPure (.int 7)) (mPure []))))) (mPure [])))) (mPure [])))) (mConsO (mMap O.sh (mPure (.int 1))) (mConsO (mMap O.sh (mBind (mSubN 9 (mPure (.int 0))) asSh)) (mConsO (mMap O.sh (mBind (mSubN 9 (mPure (.int 1))) asSh)) (mConsO (mMap O.sh (mPure (.int 11))) (mPure [])))))))))))) (mBl (mEqX2 "Machine" "Graph" sem_Machine___eq__ (mMap O.sh (mNameV 10)) (mMap O.sh (mNameV 2))))) (sRet (mMap O.sh (mPure (.bl false)))) sNext)
  (sSeq (sAsg 11 (mLst (mCons (mMap O.toD (mMakeX "Machine" sem_Machine___init__ [some 2, none, none, none, none] (mHas 2 (mConsO (mMap O.sh (mPure (.int 1))) (mConsO (mMap O.sh (mBind (mSubN 9 (mPure (.int 0))) asSh)) (mConsO (mMap O.sh (mBind (mSubN 9 (mPure (.int 1))) asSh)) (mConsO (mMap O.sh (mPure (.int 10))) (mPure [])))))))) (mCons (mMap O.toD (mMakeX "Machine" sem_Machine___init__ [some 2, none, none, none, none] (mHas 2 (mConsO (mMap O.sh (mPure (.int 1))) (mConsO (mOpS addD (mSlice true true (mSubN 9 (mPure (.int 0))) (mPure none) (mPart (mPure (.int 1)))) (mMap (fun d => ((none : Option Nat), O.sh d)) (mTup (mCons (mPure (.int 0)) (mPure []))))) (mConsO (mMap O.sh (mBind (mSubN 9 (mPure (.int 1))) asSh)) (mConsO (mMap O.sh (mPure (.int 11))) (mPure [])))))))) (mPure [])))))
  (sSeq (sApp 11 (mMap O.toD (mMakeX "Machine" sem_Machine___init__ [some 2, none, none, none, none] (mHas 2 (mConsO (mMap O.sh (mPure (.int 1))) (mConsO (mMap O.sh (mBind (mSubN 9 (mPure (.int 0))) asSh)) (mConsO (mOpS addD (mSlice true true (mSubN 9 (mPure (.int 1))) (mPure none) (mPart (mPure (.int 1)))) (mMap (fun d => ((none : Option Nat), O.sh d)) (mTup (mCons (mPure (.int 2)) (mPure []))))) (mConsO (mMap O.sh (mPure (.int 11))) (mPure [])))))))))
  (sSeq (sApp 11 (mMap O.toD (mMakeX "Machine" sem_Machine___init__ [none, none, none, none, none] (mConsO (mMakeX "Graph" sem_Graph___init__ [none, none] (mConsO (mMap O.sh (mPure (.int 3))) (mConsO (mLst (mCons (mTup (mCons (mPure (.int 4)) (mCons (mPure (.int 2)) (mPure [])))) (mCons (mTup (mCons (mPure (.int 9)) (mCons (mPure (.int 5)) (mPure [])))) (mPure [])))) (mPure [])))) (mConsO (mMap O.sh (mPure (.int 1))) (mConsO (mMap O.sh (mBind (mSubN 9 (mPure (.int 0))) asSh)) (mConsO (mMap O.sh (mBind (mSubN 9 (mPure (.int 1))) asSh)) (mConsO (mMap O.sh (mPure (.int 11))) (mPure [])))))))))
  (sSeq (sIf (mBl (mOpS neO (mLc [13] (mBind (mNameV 11) seqD) (bName 13) (mBl (mEqX "Machine" sem_Machine___eq__ (mMap O.sh (mNameV 10)) (mMap O.sh (mNameV 13)))) (mPure (.int 1))) (mMap (fun o => ((none : Option Nat), o)) (mLst (mPure []))))) (sRet (mMap O.sh (mPure (.bl false)))) sNext)
  (sSeq (sAsg 12 (mMakeX "Unrolled" sem_Unrolled___init__ [some 2, none, none] (mHas 2 (mConsO (mLst (mCons (mTup (mCons (mPure (.int 2)) (mPure []))) (mPure []))) (mConsO (mLst (mCons (mPure (.int 4)) (mPure []))) (mPure []))))))
  (sRet (mMap O.sh (mAndV (mMap O.toD (mEqX "Graph" sem_Graph___eq__ (mMap O.sh (mFldV tbl 12 "graph")) (mMap O.sh (mNameV 2)))) (mAndV (mMap O.toD (mOpS eqO (mMap O.sh (mFldV tbl 12 "states")) (mMap (fun d => ((none : Option Nat), O.sh d)) (mTup (mCons (mTup (mCons (mPure (.int 2)) (mPure []))) (mPure [])))))) (mMap O.toD (mOpS eqO (mMap O.sh (mFldV tbl 12 "wishes")) (mMap (fun d => ((none : Option Nat), O.sh d)) (mTup (mCons (mPure (.int 4)) (mPure [])))))))))))))))))))))))))))))))
def sem_law : Sem := semOf 14 1 [0] d_law
theorem sc_law : FnScope ["_law_script", "_law_pen_here", "_law_graph", "_law_odd", "_law_resets", "_law_nexts", "_law_wish", "_law_given", "_law_more", "_law_due", "_law_one", "_law_others", "_law_told", "_law_other"] ["_law_script"] (defScope s_law) := ⟨rfl, rfl, rfl, by decide +kernel, rfl, by decide +kernel, by decide +kernel⟩
theorem ok_law {P : Program} {w : World} {K : PySem.W.Frag} {mg : Str → Option Value} {base : Heap} (T : Txt mg) (TF : FieldsOk ⟨K, mg⟩ tbl) (c__law_pen : CalG P w K mg base 1 "_law_pen" ["_law_script"] sem__law_pen) (c_Graph___init__ : MakG P w K mg base 4 "Graph" ["self", "leaves", "gates"] sem_Graph___init__) (c__law_pick : CalG P w K mg base 2 "_law_pick" ["_law_pen_here", "_law_some"] sem__law_pick) (c_R_Machine___init__ : MakX P w K mg base 4 "Machine" ["self", "graph", "inputs", "resets", "nexts", "wish"] sem_R_Machine___init__) (c__law_draw : CalG P w K mg base 1 "_law_draw" ["_law_pen_here", "_law_many"] sem__law_draw) (c_Machine___init__ : MakG P w K mg base 4 "Machine" ["self", "graph", "inputs", "resets", "nexts", "wish"] sem_Machine___init__) (c_Graph___eq__ : MetG P w K mg base 1 "Graph" "__eq__" ["self", "other"] sem_Graph___eq__) (c_Machine___eq__ : MetG P w K mg base 2 "Machine" "__eq__" ["self", "other"] sem_Machine___eq__) (c_Unrolled___init__ : MakG P w K mg base 2 "Unrolled" ["self", "graph", "states", "wishes"] sem_Unrolled___init__) (nf_Machine_Graph : NotF K mg "Machine" "Graph") {E_BadNumber E_BadRow : Addr} (c__law_why : WhyG P w K mg "_law_why" "_law_call" (top 19) ["_law_call", "e"] "e" 1 [⟨"BadNumber", E_BadNumber, [.str "number", .fld "what", .rep "number"]⟩, ⟨"BadRow", E_BadRow, [.str "row", .rep "row"]⟩]) {cL PL : Addr} (LG : LamG base K mg cL PL ((envOfC "law" (defScope s_law) 0 0 .none).qual ++ "<lambda>")) {f : Addr} {fd : FuncData} (F : Fun K "law" "law" s_law f fd) (hfc : fd.code = .ref cL) : FnG P w K mg base CX0 9 f fd ["_law_script"] (spX ⟨K, mg⟩ 1 sem_law) :=
  fn_GT (k := 8) (N := ["_law_script", "_law_pen_here", "_law_graph", "_law_odd", "_law_resets", "_law_nexts", "_law_wish", "_law_given", "_law_more", "_law_due", "_law_one", "_law_others", "_law_told", "_law_other"]) F hfc sc_law (by decide) (fun A outer s H E hr => have sc := sc_law
    (dS_cons (dS_set (i := 1) (fun _ h => ps_set sc.nd rfl (by first | exact Or.inl rfl | exact Or.inr rfl) h) (de_callG c__law_pen hr (by decide) rfl (dA_slot (pv 0) dA_nil)) (by decide))
    (dS_cons (dS_set (i := 2) (fun _ h => ps_set sc.nd rfl (by first | exact Or.inl rfl | exact Or.inr rfl) h) (de_makeG c_Graph___init__ hr (by decide) rfl (dA_push (dE_V dV_int) (dA_push (dE_lst (dVs_cons (dV_tup (dVs_cons dV_int (dVs_cons dV_int dVs_nil))) (dVs_cons (dV_tup (dVs_cons dV_int (dVs_cons dV_int dVs_nil))) dVs_nil))) dA_nil))) (by decide))
    (dS_cons (dS_set (i := 3) (fun _ h => ps_set sc.nd rfl (by first | exact Or.inl rfl | exact Or.inr rfl) h) (de_callG c__law_pick hr (by decide) rfl (dA_slot (pv 1) (dA_push (dE_lst (dVs_cons (dV_neg dV_int) (dVs_cons dV_int (dVs_cons dV_non (dVs_cons dV_bl (dVs_cons dV_str (dVs_cons (dV_tup (dVs_cons dV_int dVs_nil)) dVs_nil))))))) dA_nil))) (by decide))
    (dS_cons (dS_set (i := 4) (fun _ h => ps_set sc.nd rfl (by first | exact Or.inl rfl | exact Or.inr rfl) h) (de_callG c__law_pick hr (by decide) rfl (dA_slot (pv 1) (dA_push (dE_lst (dVs_cons dV_non (dVs_cons dV_int (dVs_cons (dV_tup (dVs_cons dV_int dVs_nil)) (dVs_cons (dV_tup (dVs_cons dV_int (dVs_cons dV_int (dVs_cons dV_int dVs_nil)))) (dVs_cons (dV_tup (dVs_cons dV_int (dVs_cons dV_int dVs_nil))) (dVs_cons (dV_tup (dVs_cons dV_bl (dVs_cons dV_int dVs_nil))) (dVs_cons dV_str (dVs_cons (dV_tup (dVs_cons dV_int (dVs_cons dV_non dVs_nil))) dVs_nil))))))))) dA_nil))) (by decide))
    (dS_cons (dS_set (i := 5) (fun _ h => ps_set sc.nd rfl (by first | exact Or.inl rfl | exact Or.inr rfl) h) (de_callG c__law_pick hr (by decide) rfl (dA_slot (pv 1) (dA_push (dE_lst (dVs_cons dV_non (dVs_cons dV_int (dVs_cons (dV_tup (dVs_cons dV_int dVs_nil)) (dVs_cons (dV_tup (dVs_cons dV_int (dVs_cons dV_int (dVs_cons dV_int dVs_nil)))) (dVs_cons (dV_tup (dVs_cons dV_int (dVs_cons dV_int dVs_nil))) (dVs_cons (dV_tup (dVs_cons dV_int (dVs_cons (dV_neg dV_int) dVs_nil))) (dVs_cons (dV_tup (dVs_cons dV_int (dVs_cons dV_bl dVs_nil))) (dVs_cons dV_str (dVs_cons (dV_tup (dVs_cons dV_int (dVs_cons dV_non dVs_nil))) dVs_nil)))))))))) dA_nil))) (by decide))
    (dS_cons (dS_set (i := 6) (fun _ h => ps_set sc.nd rfl (by first | exact Or.inl rfl | exact Or.inr rfl) h) (de_callG c__law_pick hr (by decide) rfl (dA_slot (pv 1) (dA_push (dE_lst (dVs_cons (dV_neg dV_int) (dVs_cons dV_int (dVs_cons dV_non (dVs_cons dV_bl (dVs_cons dV_str (dVs_cons (dV_tup (dVs_cons dV_int dVs_nil)) dVs_nil))))))) dA_nil))) (by decide))
    (dS_cons (dS_if (dT_cmpS (op_neD (huG64 hr)) ne_sem (dE_whyL (k := 5) c__law_why (hr.mono (by decide)) rfl LG rfl (LamX.lamS_by (by kernel_rfl)) rfl (fun _ _ _ _ _ => rfl) (fun A1 outer1 s1 H1 E1 f1 c1 hr => (de_makeGX c_R_Machine___init__ hr (takes_of rfl rfl rfl rfl) (by decide) rfl (dA_slot (pv 2) (dA_slot (pv 3) (dA_slot (pv 4) (dA_slot (pv 5) (dA_slot (pv 6) dA_nil)))))))) (dB_V (dV_tup (dVs_cons dV_str (dVs_cons dV_str (dVs_cons (dV_E (dE_callB (cr_repr hr) (Call1.op repr_sem) rfl (T.m "repr" (by decide)) PyProof.Rows.boot_repr (dBs_cons (dB_name (pv 3)) dBs_nil) (by decide) (by decide))) dVs_nil))))) (nomark _)) (dS_one (dS_ret (dE_V dV_bl))) dS_nil)
    (dS_cons (dS_if (dT_cmpS (op_neD (huG64 hr)) ne_sem (dE_whyL (k := 5) c__law_why (hr.mono (by decide)) rfl LG rfl (LamX.lamS_by (by kernel_rfl)) rfl (fun _ _ _ _ _ => rfl) (fun A1 outer1 s1 H1 E1 f1 c1 hr => (de_makeGX c_R_Machine___init__ hr (takes_of rfl rfl rfl rfl) (by decide) rfl (dA_slot (pv 2) (dA_push (dE_V dV_int) (dA_slot (pv 4) (dA_slot (pv 5) (dA_slot (pv 6) dA_nil)))))))) (dB_V (dV_tup (dVs_cons dV_str (dVs_cons (dV_E (dE_callB (cr_repr hr) (Call1.op repr_sem) rfl (T.m "repr" (by decide)) PyProof.Rows.boot_repr (dBs_cons (dB_name (pv 4)) dBs_nil) (by decide) (by decide))) dVs_nil)))) (nomark _)) (dS_one (dS_ret (dE_V dV_bl))) dS_nil)
    (dS_cons (dS_if (dT_cmpS (op_neD (huG64 hr)) ne_sem (dE_whyL (k := 5) c__law_why (hr.mono (by decide)) rfl LG rfl (LamX.lamS_by (by kernel_rfl)) rfl (fun _ _ _ _ _ => rfl) (fun A1 outer1 s1 H1 E1 f1 c1 hr => (de_makeGX c_R_Machine___init__ hr (takes_of rfl rfl rfl rfl) (by decide) rfl (dA_slot (pv 2) (dA_push (dE_V dV_int) (dA_push (dE_V (dV_tup (dVs_cons dV_int (dVs_cons dV_int dVs_nil)))) (dA_slot (pv 5) (dA_slot (pv 6) dA_nil)))))))) (dB_V (dV_tup (dVs_cons dV_str (dVs_cons (dV_E (dE_callB (cr_repr hr) (Call1.op repr_sem) rfl (T.m "repr" (by decide)) PyProof.Rows.boot_repr (dBs_cons (dB_name (pv 5)) dBs_nil) (by decide) (by decide))) dVs_nil)))) (nomark _)) (dS_one (dS_ret (dE_V dV_bl))) dS_nil)
    (dS_cons (dS_if (dT_cmpS (op_neD (huG64 hr)) ne_sem (dE_whyL (k := 5) c__law_why (hr.mono (by decide)) rfl LG rfl (LamX.lamS_by (by kernel_rfl)) rfl (fun _ _ _ _ _ => rfl) (fun A1 outer1 s1 H1 E1 f1 c1 hr => (de_makeGX c_R_Machine___init__ hr (takes_of rfl rfl rfl rfl) (by decide) rfl (dA_slot (pv 2) (dA_push (dE_V dV_int) (dA_push (dE_V (dV_tup (dVs_cons dV_int (dVs_cons dV_int dVs_nil)))) (dA_push (dE_V (dV_tup (dVs_cons dV_int (dVs_cons dV_int dVs_nil)))) (dA_slot (pv 6) dA_nil)))))))) (dB_V (dV_tup (dVs_cons dV_str (dVs_cons dV_str (dVs_cons (dV_E (dE_callB (cr_repr hr) (Call1.op repr_sem) rfl (T.m "repr" (by decide)) PyProof.Rows.boot_repr (dBs_cons (dB_name (pv 6)) dBs_nil) (by decide) (by decide))) dVs_nil))))) (nomark _)) (dS_one (dS_ret (dE_V dV_bl))) dS_nil)
    (dS_cons (dS_par (fun _ h => ps_par rfl sc.nd (i := 7) (j := 8) rfl rfl (by decide) rfl rfl h rfl) (dEs_cons (dE_lst (dVs_cons (dV_E (de_callG c__law_draw hr (by decide) rfl (dA_slot (pv 1) (dA_push (dE_V dV_int) dA_nil)))) (dVs_cons dV_int dVs_nil))) (dEs_cons (dE_lst (dVs_cons (dV_E (de_callG c__law_draw hr (by decide) rfl (dA_slot (pv 1) (dA_push (dE_V dV_int) dA_nil)))) (dVs_cons dV_int dVs_nil))) dEs_nil)) (by decide) (by decide) (by decide))
    (dS_cons (dS_set (i := 9) (fun _ h => ps_set sc.nd rfl (by first | exact Or.inl rfl | exact Or.inr rfl) h) (dE_V (dV_tup (dVs_cons (dV_E (dE_callT call_tuple_of (Call1.op tuple_sem) rfl (T.m "tuple" (by decide)) PyProof.Rows.boot_tuple (dBs_cons (dB_name (pv 7)) dBs_nil) (by decide) (by decide))) (dVs_cons (dV_E (dE_callT call_tuple_of (Call1.op tuple_sem) rfl (T.m "tuple" (by decide)) PyProof.Rows.boot_tuple (dBs_cons (dB_name (pv 8)) dBs_nil) (by decide) (by decide))) dVs_nil)))) (by decide))
    (dS_cons (dS_set (i := 10) (fun _ h => ps_set sc.nd rfl (by first | exact Or.inl rfl | exact Or.inr rfl) h) (de_makeG c_Machine___init__ hr (by decide) rfl (dA_slot (pv 2) (dA_push (dE_V dV_int) (dA_slot (pv 7) (dA_slot (pv 8) (dA_push (dE_V dV_int) dA_nil)))))) (by decide))
    (dS_cons (dS_put2L (fun _ _ _ _ _ h0 h1 h2 h3 h4 => ps_asg h0 (pg_tup rfl (pgs_cons (pg_sub h1 h2 set_list) (pgs_cons (pg_sub h3 h4 set_list) pgs_nil)))) (pv 7) pe_int (pv 8) pe_int (dV_tup (dVs_cons dV_int (dVs_cons dV_int dVs_nil))))
    (dS_cons (dS_if (PW.pt (dT_or (dT_cmpS (op_neD (huG64 hr)) ne_sem (dE_V (dV_tup (dVs_cons (dV_fldX TF (pv 10)) (dVs_cons (dV_fldX TF (pv 10)) dVs_nil)))) (dB_name (pv 9)) (nomark _)) (dT_or (dT_cmpS (op_neD (huG64 hr)) ne_sem (dE_V (dV_tup (dVs_cons (dV_fldX TF (pv 10)) (dVs_cons (dV_fldX TF (pv 10)) dVs_nil)))) (dB_V (dV_tup (dVs_cons dV_int (dVs_cons dV_int dVs_nil)))) (nomark _)) (dT_or1 (dT_not (dT_eqX c_Graph___eq__ hr (by decide) (dE_V (dV_fldX TF (pv 10))) (dE_V (dV_nameV (pv 2))) (nomark _))))))) (dS_one (dS_ret (dE_V dV_bl))) dS_nil)
    (dS_cons (dS_if (PW.pt (dT_or (dT_not (dT_eqX c_Machine___eq__ hr (by decide) (dE_V (dV_nameV (pv 10))) (dE_V (dV_E (de_makeG c_Machine___init__ hr (by decide) rfl (dA_push (de_makeG c_Graph___init__ hr (by decide) rfl (dA_push (dE_V dV_int) (dA_push (dE_lst (dVs_cons (dV_E (dE_lst (dVs_cons dV_int (dVs_cons dV_int dVs_nil)))) (dVs_cons (dV_E (dE_lst (dVs_cons dV_int (dVs_cons dV_int dVs_nil)))) dVs_nil))) dA_nil))) (dA_push (dE_V dV_int) (dA_push (dE_V (dV_B (dB_subN (huG hr) (pv 9) dV_int (by intro _ _; rfl) (by intro _ _; rfl)))) (dA_push (dE_V (dV_B (dB_subN (huG hr) (pv 9) dV_int (by intro _ _; rfl) (by intro _ _; rfl)))) (dA_push (dE_V dV_int) dA_nil)))))))) (nomark _))) (dT_or1 (dT_eqX2 c_Machine___eq__ hr (by decide) nf_Machine_Graph (dE_V (dV_nameV (pv 10))) (dE_V (dV_nameV (pv 2))) (nomark _))))) (dS_one (dS_ret (dE_V dV_bl))) dS_nil)
    (dS_cons (dS_set (i := 11) (fun _ h => ps_set sc.nd rfl (by first | exact Or.inl rfl | exact Or.inr rfl) h) (dE_lst (dVs_cons (dV_E (de_makeG c_Machine___init__ hr (by decide) rfl (dA_slot (pv 2) (dA_push (dE_V dV_int) (dA_push (dE_V (dV_B (dB_subN (huG hr) (pv 9) dV_int (by intro _ _; rfl) (by intro _ _; rfl)))) (dA_push (dE_V (dV_B (dB_subN (huG hr) (pv 9) dV_int (by intro _ _; rfl) (by intro _ _; rfl)))) (dA_push (dE_V dV_int) dA_nil))))))) (dVs_cons (dV_E (de_makeG c_Machine___init__ hr (by decide) rfl (dA_slot (pv 2) (dA_push (dE_V dV_int) (dA_push (de_opS op_addA add_sem (dE_slice (dB_subN (huG hr) (pv 9) dV_int (by intro _ _; rfl) (by intro _ _; rfl)) dI_none (dI_some dV_int)) (dB_V (dV_tup (dVs_cons dV_int dVs_nil)))) (dA_push (dE_V (dV_B (dB_subN (huG hr) (pv 9) dV_int (by intro _ _; rfl) (by intro _ _; rfl)))) (dA_push (dE_V dV_int) dA_nil))))))) dVs_nil))) (by decide))
    (dS_cons (dS_app (i := 11) (fun _ h => ps_expr (pe_bm PySem.F.plainAttrs_list PySem.F.slot_list_append PySem.F.type_list_append mt_append (pv 11) h)) (dV_E (de_makeG c_Machine___init__ hr (by decide) rfl (dA_slot (pv 2) (dA_push (dE_V dV_int) (dA_push (dE_V (dV_B (dB_subN (huG hr) (pv 9) dV_int (by intro _ _; rfl) (by intro _ _; rfl)))) (dA_push (de_opS op_addA add_sem (dE_slice (dB_subN (huG hr) (pv 9) dV_int (by intro _ _; rfl) (by intro _ _; rfl)) dI_none (dI_some dV_int)) (dB_V (dV_tup (dVs_cons dV_int dVs_nil)))) (dA_push (dE_V dV_int) dA_nil))))))))
    (dS_cons (dS_app (i := 11) (fun _ h => ps_expr (pe_bm PySem.F.plainAttrs_list PySem.F.slot_list_append PySem.F.type_list_append mt_append (pv 11) h)) (dV_E (de_makeG c_Machine___init__ hr (by decide) rfl (dA_push (de_makeG c_Graph___init__ hr (by decide) rfl (dA_push (dE_V dV_int) (dA_push (dE_lst (dVs_cons (dV_tup (dVs_cons dV_int (dVs_cons dV_int dVs_nil))) (dVs_cons (dV_tup (dVs_cons dV_int (dVs_cons dV_int dVs_nil))) dVs_nil))) dA_nil))) (dA_push (dE_V dV_int) (dA_push (dE_V (dV_B (dB_subN (huG hr) (pv 9) dV_int (by intro _ _; rfl) (by intro _ _; rfl)))) (dA_push (dE_V (dV_B (dB_subN (huG hr) (pv 9) dV_int (by intro _ _; rfl) (by intro _ _; rfl)))) (dA_push (dE_V dV_int) dA_nil))))))))
    (dS_cons (dS_if (dT_cmpS (op_neD (huG64 hr)) ne_sem (dE_lc (W' := W0) (own := [("_law_other", 13)]) rfl sc.nd (blkOk_by (by rfl)) (dI_seq (fun h => pi_list h) (fun h => pi_tup h) (dV_nameV (pv 11))) (fun s H C cl fp => (dG_name (pg_name sc.nd rfl (by first | exact Or.inl rfl | exact Or.inr rfl)))) (fun s H C cl fp => (dTs_one (dT_eqX c_Machine___eq__ hr (by decide) (dE_V (dV_nameV (pv 10))) (dE_V (dV_nameV (pv 13))) (nomark _)))) (fun s H C cl fp => dV_int)) (dB_E (dE_lst dVs_nil)) (nomark _)) (dS_one (dS_ret (dE_V dV_bl))) dS_nil)
    (dS_cons (dS_set (i := 12) (fun _ h => ps_set sc.nd rfl (by first | exact Or.inl rfl | exact Or.inr rfl) h) (de_makeG c_Unrolled___init__ hr (by decide) rfl (dA_slot (pv 2) (dA_push (dE_lst (dVs_cons (dV_tup (dVs_cons dV_int dVs_nil)) dVs_nil)) (dA_push (dE_lst (dVs_cons dV_int dVs_nil)) dA_nil)))) (by decide))
    (dS_one (dS_ret (dE_V (dV_and (dV_E (de_eqX c_Graph___eq__ hr (by decide) (dE_V (dV_fldX TF (pv 12))) (dE_V (dV_nameV (pv 2))) (nomark _))) (dV_and (dV_E (de_cmpS (op_eqD (huG64 hr)) eq_sem (dE_V (dV_fldX TF (pv 12))) (dB_V (dV_tup (dVs_cons (dV_tup (dVs_cons dV_int dVs_nil)) dVs_nil))) (nomark _))) (dV_one (dV_E (de_cmpS (op_eqD (huG64 hr)) eq_sem (dE_V (dV_fldX TF (pv 12))) (dB_V (dV_tup (dVs_cons dV_int dVs_nil))) (nomark _)))))))))))))))))))))))))))))))

theorem all_mk {l : PySem.W.OpenLaw} {w : World} {K : PySem.W.Frag} {h : Heap} {mg : Str → Option Value} {fa : Addr} (X : K.In h) (G : h.Ns mainGlobals mg) (hfa : mg "law" = some (.ref fa))
    (TB : TabsE K mg h ["law"])
    (truth : ∀ ns : List Int, ns.length ≤ 63 → ∃ fs, sem_law [.sh (.fz (ns.map D.int))] = .ok (.sh (.bl true)) fs)
    {C0 : Addr} (aC0 : PySem.W.nsIn K mainGlobals "Graph" = some (some (.ref C0))) (pg0 : PySem.W.plainGet K C0 Str.empty = true) (hd0 : PySem.W.hasDictIn K C0 = true) (po0 : PySem.W.plainOver K C0 = true) (sa0 : PySem.W.findIn K (.ref C0) "__setattr__" = some (some (.builtin "object.__setattr__"))) (na0_0 : PySem.W.findIn K (.ref C0) "leaves" = some none) (na0_1 : PySem.W.findIn K (.ref C0) "gates" = some none) (mk0 : PySem.W.makesIn K C0 = true) (kc0 : PySem.W.keepIn K (.ref C0) = true) (ia0 : PySem.W.findIn K (.ref C0) "__class__" = some (some (.builtin "object.__class__"))) (ib0 : PySem.W.specialIn K (.builtin "object.__class__") "__get__" = some (some (.builtin "getset_descriptor.__get__"))) (id0 : PySem.W.takesIn K (.builtin "object.__class__") = some true) (ie0 : PySem.W.mroIn K C0 (.type "object") = some true)
    {C1 : Addr} (aC1 : PySem.W.nsIn K mainGlobals "Machine" = some (some (.ref C1))) (pg1 : PySem.W.plainGet K C1 Str.empty = true) (hd1 : PySem.W.hasDictIn K C1 = true) (po1 : PySem.W.plainOver K C1 = true) (sa1 : PySem.W.findIn K (.ref C1) "__setattr__" = some (some (.builtin "object.__setattr__"))) (na1_0 : PySem.W.findIn K (.ref C1) "graph" = some none) (na1_1 : PySem.W.findIn K (.ref C1) "inputs" = some none) (na1_2 : PySem.W.findIn K (.ref C1) "resets" = some none) (na1_3 : PySem.W.findIn K (.ref C1) "nexts" = some none) (na1_4 : PySem.W.findIn K (.ref C1) "wish" = some none) (mk1 : PySem.W.makesIn K C1 = true) (kc1 : PySem.W.keepIn K (.ref C1) = true) (ia1 : PySem.W.findIn K (.ref C1) "__class__" = some (some (.builtin "object.__class__"))) (ib1 : PySem.W.specialIn K (.builtin "object.__class__") "__get__" = some (some (.builtin "getset_descriptor.__get__"))) (id1 : PySem.W.takesIn K (.builtin "object.__class__") = some true) (ie1 : PySem.W.mroIn K C1 (.type "object") = some true)
    {C2 : Addr} (aC2 : PySem.W.nsIn K mainGlobals "Unrolled" = some (some (.ref C2))) (pg2 : PySem.W.plainGet K C2 Str.empty = true) (hd2 : PySem.W.hasDictIn K C2 = true) (po2 : PySem.W.plainOver K C2 = true) (sa2 : PySem.W.findIn K (.ref C2) "__setattr__" = some (some (.builtin "object.__setattr__"))) (na2_0 : PySem.W.findIn K (.ref C2) "graph" = some none) (na2_1 : PySem.W.findIn K (.ref C2) "states" = some none) (na2_2 : PySem.W.findIn K (.ref C2) "wishes" = some none) (mk2 : PySem.W.makesIn K C2 = true) (kc2 : PySem.W.keepIn K (.ref C2) = true)
    {f0 : Addr} {od0 an0 : Option Addr} {sl0 : Array (Option Value)} {oc0 kV0 dc0 pm0 cd0 ct0 : Value} (a0 : PySem.W.nsIn K mainGlobals "_law_pen" = some (some (.ref f0))) (l0 : K.lookup f0 = some ⟨oc0, od0, .func (PySem.W.fnOf "_law_pen" "_law_pen" (defArgs s__law_pen) (defBody s__law_pen) (defScope s__law_pen) .none kV0 dc0 pm0 an0 cd0 ct0), sl0⟩) (c0 : PySem.W.codeIn K cd0 "_law_pen" = true) (k0 : PySem.W.keepIn K (.ref f0) = true)
    {f1 : Addr} {od1 an1 : Option Addr} {sl1 : Array (Option Value)} {oc1 kV1 dc1 pm1 cd1 ct1 : Value} (a1 : PySem.W.nsIn K mainGlobals "is_count" = some (some (.ref f1))) (l1 : K.lookup f1 = some ⟨oc1, od1, .func (PySem.W.fnOf "is_count" "is_count" (defArgs s_is_count) (defBody s_is_count) (defScope s_is_count) .none kV1 dc1 pm1 an1 cd1 ct1), sl1⟩) (c1 : PySem.W.codeIn K cd1 "is_count" = true) (k1 : PySem.W.keepIn K (.ref f1) = true)
    {f2 : Addr} {od2 an2 : Option Addr} {sl2 : Array (Option Value)} {oc2 kV2 dc2 pm2 cd2 ct2 : Value} (a2 : PySem.W.nsIn K mainGlobals "is_literal" = some (some (.ref f2))) (l2 : K.lookup f2 = some ⟨oc2, od2, .func (PySem.W.fnOf "is_literal" "is_literal" (defArgs s_is_literal) (defBody s_is_literal) (defScope s_is_literal) .none kV2 dc2 pm2 an2 cd2 ct2), sl2⟩) (c2 : PySem.W.codeIn K cd2 "is_literal" = true) (k2 : PySem.W.keepIn K (.ref f2) = true)
    {f3 : Addr} {od3 an3 : Option Addr} {sl3 : Array (Option Value)} {oc3 kV3 dc3 pm3 cd3 ct3 : Value} (a3 : PySem.W.nsIn K mainGlobals "are_gates" = some (some (.ref f3))) (l3 : K.lookup f3 = some ⟨oc3, od3, .func (PySem.W.fnOf "are_gates" "are_gates" (defArgs s_are_gates) (defBody s_are_gates) (defScope s_are_gates) .none kV3 dc3 pm3 an3 cd3 ct3), sl3⟩) (c3 : PySem.W.codeIn K cd3 "are_gates" = true) (k3 : PySem.W.keepIn K (.ref f3) = true)
    {f4 : Addr} {od4 an4 : Option Addr} {sl4 : Array (Option Value)} {oc4 kV4 dc4 pm4 cd4 ct4 : Value} (a4 : PySem.W.findIn K (.ref C0) "__init__" = some (some (.ref f4))) (i4 : PySem.W.isFn K (.ref f4) = true) (l4 : K.lookup f4 = some ⟨oc4, od4, .func (PySem.W.fnOf "__init__" "Graph.__init__" (defArgs s_Graph___init__) (defBody s_Graph___init__) (defScope s_Graph___init__) .none kV4 dc4 pm4 an4 cd4 ct4), sl4⟩) (c4 : PySem.W.codeIn K cd4 "Graph.__init__" = true) (k4 : PySem.W.keepIn K (.ref f4) = true)
    {f5 : Addr} {od5 an5 : Option Addr} {sl5 : Array (Option Value)} {oc5 kV5 dc5 pm5 cd5 ct5 : Value} (a5 : PySem.W.nsIn K mainGlobals "_law_draw" = some (some (.ref f5))) (l5 : K.lookup f5 = some ⟨oc5, od5, .func (PySem.W.fnOf "_law_draw" "_law_draw" (defArgs s__law_draw) (defBody s__law_draw) (defScope s__law_draw) .none kV5 dc5 pm5 an5 cd5 ct5), sl5⟩) (c5 : PySem.W.codeIn K cd5 "_law_draw" = true) (k5 : PySem.W.keepIn K (.ref f5) = true)
    {f6 : Addr} {od6 an6 : Option Addr} {sl6 : Array (Option Value)} {oc6 kV6 dc6 pm6 cd6 ct6 : Value} (a6 : PySem.W.nsIn K mainGlobals "_law_pick" = some (some (.ref f6))) (l6 : K.lookup f6 = some ⟨oc6, od6, .func (PySem.W.fnOf "_law_pick" "_law_pick" (defArgs s__law_pick) (defBody s__law_pick) (defScope s__law_pick) .none kV6 dc6 pm6 an6 cd6 ct6), sl6⟩) (c6 : PySem.W.codeIn K cd6 "_law_pick" = true) (k6 : PySem.W.keepIn K (.ref f6) = true)
    {f7 : Addr} {od7 an7 : Option Addr} {sl7 : Array (Option Value)} {oc7 kV7 dc7 pm7 cd7 ct7 : Value} (a7 : PySem.W.nsIn K mainGlobals "is_bit" = some (some (.ref f7))) (l7 : K.lookup f7 = some ⟨oc7, od7, .func (PySem.W.fnOf "is_bit" "is_bit" (defArgs s_is_bit) (defBody s_is_bit) (defScope s_is_bit) .none kV7 dc7 pm7 an7 cd7 ct7), sl7⟩) (c7 : PySem.W.codeIn K cd7 "is_bit" = true) (k7 : PySem.W.keepIn K (.ref f7) = true)
    {f8 : Addr} {od8 an8 : Option Addr} {sl8 : Array (Option Value)} {oc8 kV8 dc8 pm8 cd8 ct8 : Value} (a8 : PySem.W.nsIn K mainGlobals "are_bits" = some (some (.ref f8))) (l8 : K.lookup f8 = some ⟨oc8, od8, .func (PySem.W.fnOf "are_bits" "are_bits" (defArgs s_are_bits) (defBody s_are_bits) (defScope s_are_bits) .none kV8 dc8 pm8 an8 cd8 ct8), sl8⟩) (c8 : PySem.W.codeIn K cd8 "are_bits" = true) (k8 : PySem.W.keepIn K (.ref f8) = true)
    {f9 : Addr} {od9 an9 : Option Addr} {sl9 : Array (Option Value)} {oc9 kV9 dc9 pm9 cd9 ct9 : Value} (a9 : PySem.W.findIn K (.ref C1) "__init__" = some (some (.ref f9))) (i9 : PySem.W.isFn K (.ref f9) = true) (l9 : K.lookup f9 = some ⟨oc9, od9, .func (PySem.W.fnOf "__init__" "Machine.__init__" (defArgs s_R_Machine___init__) (defBody s_R_Machine___init__) (defScope s_R_Machine___init__) .none kV9 dc9 pm9 an9 cd9 ct9), sl9⟩) (c9 : PySem.W.codeIn K cd9 "Machine.__init__" = true) (k9 : PySem.W.keepIn K (.ref f9) = true)
    {f10 : Addr} {od10 an10 : Option Addr} {sl10 : Array (Option Value)} {oc10 kV10 dc10 pm10 cd10 ct10 : Value} (a10 : PySem.W.findIn K (.ref C1) "__init__" = some (some (.ref f10))) (i10 : PySem.W.isFn K (.ref f10) = true) (l10 : K.lookup f10 = some ⟨oc10, od10, .func (PySem.W.fnOf "__init__" "Machine.__init__" (defArgs s_Machine___init__) (defBody s_Machine___init__) (defScope s_Machine___init__) .none kV10 dc10 pm10 an10 cd10 ct10), sl10⟩) (c10 : PySem.W.codeIn K cd10 "Machine.__init__" = true) (k10 : PySem.W.keepIn K (.ref f10) = true)
    {f11 : Addr} {od11 an11 : Option Addr} {sl11 : Array (Option Value)} {oc11 kV11 dc11 pm11 cd11 ct11 : Value} (a11 : PySem.W.findIn K (.ref C0) "__eq__" = some (some (.ref f11))) (i11 : PySem.W.isFn K (.ref f11) = true) (l11 : K.lookup f11 = some ⟨oc11, od11, .func (PySem.W.fnOf "__eq__" "Graph.__eq__" (defArgs s_Graph___eq__) (defBody s_Graph___eq__) (defScope s_Graph___eq__) .none kV11 dc11 pm11 an11 cd11 ct11), sl11⟩) (c11 : PySem.W.codeIn K cd11 "Graph.__eq__" = true) (k11 : PySem.W.keepIn K (.ref f11) = true)
    {f12 : Addr} {od12 an12 : Option Addr} {sl12 : Array (Option Value)} {oc12 kV12 dc12 pm12 cd12 ct12 : Value} (a12 : PySem.W.findIn K (.ref C1) "__eq__" = some (some (.ref f12))) (i12 : PySem.W.isFn K (.ref f12) = true) (l12 : K.lookup f12 = some ⟨oc12, od12, .func (PySem.W.fnOf "__eq__" "Machine.__eq__" (defArgs s_Machine___eq__) (defBody s_Machine___eq__) (defScope s_Machine___eq__) .none kV12 dc12 pm12 an12 cd12 ct12), sl12⟩) (c12 : PySem.W.codeIn K cd12 "Machine.__eq__" = true) (k12 : PySem.W.keepIn K (.ref f12) = true)
    {f13 : Addr} {od13 an13 : Option Addr} {sl13 : Array (Option Value)} {oc13 kV13 dc13 pm13 cd13 ct13 : Value} (a13 : PySem.W.nsIn K mainGlobals "as_given" = some (some (.ref f13))) (l13 : K.lookup f13 = some ⟨oc13, od13, .func (PySem.W.fnOf "as_given" "as_given" (defArgs s_as_given) (defBody s_as_given) (defScope s_as_given) .none kV13 dc13 pm13 an13 cd13 ct13), sl13⟩) (c13 : PySem.W.codeIn K cd13 "as_given" = true) (k13 : PySem.W.keepIn K (.ref f13) = true)
    {f14 : Addr} {od14 an14 : Option Addr} {sl14 : Array (Option Value)} {oc14 kV14 dc14 pm14 cd14 ct14 : Value} (a14 : PySem.W.findIn K (.ref C2) "__init__" = some (some (.ref f14))) (i14 : PySem.W.isFn K (.ref f14) = true) (l14 : K.lookup f14 = some ⟨oc14, od14, .func (PySem.W.fnOf "__init__" "Unrolled.__init__" (defArgs s_Unrolled___init__) (defBody s_Unrolled___init__) (defScope s_Unrolled___init__) .none kV14 dc14 pm14 an14 cd14 ct14), sl14⟩) (c14 : PySem.W.codeIn K cd14 "Unrolled.__init__" = true) (k14 : PySem.W.keepIn K (.ref f14) = true)
    {f15 : Addr} {od15 an15 : Option Addr} {sl15 : Array (Option Value)} {oc15 kV15 dc15 pm15  ct15 : Value} {cL : Addr} (a15 : PySem.W.nsIn K mainGlobals "law" = some (some (.ref f15))) (l15 : K.lookup f15 = some ⟨oc15, od15, .func (PySem.W.fnOf "law" "law" (defArgs s_law) (defBody s_law) (defScope s_law) .none kV15 dc15 pm15 an15 (.ref cL) ct15), sl15⟩) (c15 : PySem.W.codeIn K (.ref cL) "law" = true) (k15 : PySem.W.keepIn K (.ref f15) = true)
    {E_BadNumber : Addr} (E_BadNumberg : PySem.W.nsIn K mainGlobals "BadNumber" = some (some (.ref E_BadNumber))) {E_BadNumbernm E_BadNumberq : Str} {E_BadNumberN : Addr} {E_BadNumberbs E_BadNumberbm E_BadNumbersub : List Value} {E_BadNumbersn : List Str} {E_BadNumberab : Bool} {E_BadNumbercol : Option Bool} {E_BadNumberdd : Option Addr} {E_BadNumberk0 E_BadNumberk1 E_BadNumberk2 E_BadNumberk3 E_BadNumberk5 : Option Value} (E_BadNumbercl : K.lookup E_BadNumber = some (PySem.excClassObj E_BadNumbernm E_BadNumberq E_BadNumber E_BadNumberN E_BadNumberbs E_BadNumberbm true E_BadNumbersn E_BadNumbersub E_BadNumberab E_BadNumbercol E_BadNumberdd E_BadNumberk0 E_BadNumberk1 E_BadNumberk2 E_BadNumberk3 E_BadNumberk5 "ValueError.__new__")) (E_BadNumberbv : PySem.HandSPX.refsVE E_BadNumberbm = true) (E_BadNumbersa : PySem.W.findIn K (.ref E_BadNumber) "__setattr__" = some (some (.builtin "object.__setattr__"))) (E_BadNumberga : PySem.W.findIn K (.ref E_BadNumber) "__getattribute__" = some (some (.builtin "BaseException.__getattribute__"))) (E_BadNumbergg : PySem.W.findIn K (.ref E_BadNumber) "__getattr__" = some none) (E_BadNumbern0 : PySem.W.findIn K (.ref E_BadNumber) "what" = some none) (E_BadNumbern1 : PySem.W.findIn K (.ref E_BadNumber) "number" = some none) {E_BadNumberf : Addr} (E_BadNumberi : PySem.W.findIn K (.ref E_BadNumber) "__init__" = some (some (.ref E_BadNumberf))) (E_BadNumbert : PySem.W.typeIn K (.ref E_BadNumberf) = some (.type "function")) (E_BadNumberk : PySem.W.keepIn K (.ref E_BadNumber) = true) (E_BadNumberex : PySem.W.subIn K (.ref E_BadNumber) (.type "BaseException") = some true) (E_BadNumberty : PySem.W.typeIn K (.ref E_BadNumber) = some (.type "type")) (E_BadNumberhd : PySem.W.hasDictIn K E_BadNumber = true) (E_BadNumbersu : PySem.W.ks_superIn K E_BadNumber E_BadNumber "__init__" = some (some (.builtin "ValueError.__init__"))) (E_BadNumberve : PySem.W.subIn K (.ref E_BadNumber) (.type "ValueError") = some true) (E_BadNumberow : PySem.W.mroIn K E_BadNumber (.ref E_BadNumber) = some true) {E_BadNumberoc E_BadNumberkV E_BadNumberdoc E_BadNumberpm E_BadNumberct E_BadNumberc1 E_BadNumberc2 : Value} {E_BadNumberod E_BadNumberan E_BadNumbercld E_BadNumbercdd : Option Addr} {E_BadNumbercda E_BadNumbercc : Addr} {E_BadNumberosl E_BadNumbercsl E_BadNumberccs : Array (Option Value)} {E_BadNumbervs : Array Value} {E_BadNumberfile : Str} {E_BadNumbertf : Tok} (E_BadNumberl : K.lookup E_BadNumberf = some ⟨E_BadNumberoc, E_BadNumberod, .func (PySem.W.ksFn "__init__" "BadNumber.__init__" (L2.defArgs (inClass (top 2) 0)) (L2.defBody (inClass (top 2) 0)) (L2.defScope (inClass (top 2) 0)) .none E_BadNumberkV E_BadNumberdoc E_BadNumberpm E_BadNumberan (.ref E_BadNumbercda) E_BadNumberct E_BadNumbercc), E_BadNumberosl⟩) (E_BadNumberco : PySem.W.codeIn K (.ref E_BadNumbercda) "BadNumber.__init__" = true) (E_BadNumberce : K.lookup E_BadNumbercc = some ⟨E_BadNumberc1, E_BadNumbercld, .cell (some (.ref E_BadNumber)), E_BadNumbercsl⟩) (E_BadNumbercv : K.lookup E_BadNumbercda = some ⟨E_BadNumberc2, E_BadNumbercdd, .fields E_BadNumbervs, E_BadNumberccs⟩) (E_BadNumberv2 : E_BadNumbervs[2]? = some (.str E_BadNumberfile E_BadNumbertf)) (E_BadNumberfi : ((l.prog.main.file : Str) == E_BadNumberfile) = true)
    {E_BadRow : Addr} (E_BadRowg : PySem.W.nsIn K mainGlobals "BadRow" = some (some (.ref E_BadRow))) {E_BadRownm E_BadRowq : Str} {E_BadRowN : Addr} {E_BadRowbs E_BadRowbm E_BadRowsub : List Value} {E_BadRowsn : List Str} {E_BadRowab : Bool} {E_BadRowcol : Option Bool} {E_BadRowdd : Option Addr} {E_BadRowk0 E_BadRowk1 E_BadRowk2 E_BadRowk3 E_BadRowk5 : Option Value} (E_BadRowcl : K.lookup E_BadRow = some (PySem.excClassObj E_BadRownm E_BadRowq E_BadRow E_BadRowN E_BadRowbs E_BadRowbm true E_BadRowsn E_BadRowsub E_BadRowab E_BadRowcol E_BadRowdd E_BadRowk0 E_BadRowk1 E_BadRowk2 E_BadRowk3 E_BadRowk5 "ValueError.__new__")) (E_BadRowbv : PySem.HandSPX.refsVE E_BadRowbm = true) (E_BadRowsa : PySem.W.findIn K (.ref E_BadRow) "__setattr__" = some (some (.builtin "object.__setattr__"))) (E_BadRowga : PySem.W.findIn K (.ref E_BadRow) "__getattribute__" = some (some (.builtin "BaseException.__getattribute__"))) (E_BadRowgg : PySem.W.findIn K (.ref E_BadRow) "__getattr__" = some none) (E_BadRown0 : PySem.W.findIn K (.ref E_BadRow) "row" = some none) {E_BadRowf : Addr} (E_BadRowi : PySem.W.findIn K (.ref E_BadRow) "__init__" = some (some (.ref E_BadRowf))) (E_BadRowt : PySem.W.typeIn K (.ref E_BadRowf) = some (.type "function")) (E_BadRowk : PySem.W.keepIn K (.ref E_BadRow) = true) (E_BadRowex : PySem.W.subIn K (.ref E_BadRow) (.type "BaseException") = some true) (E_BadRowty : PySem.W.typeIn K (.ref E_BadRow) = some (.type "type")) (E_BadRowhd : PySem.W.hasDictIn K E_BadRow = true) (E_BadRowsu : PySem.W.ks_superIn K E_BadRow E_BadRow "__init__" = some (some (.builtin "ValueError.__init__"))) (E_BadRowve : PySem.W.subIn K (.ref E_BadRow) (.type "ValueError") = some true) (E_BadRowow : PySem.W.mroIn K E_BadRow (.ref E_BadRow) = some true) {E_BadRowoc E_BadRowkV E_BadRowdoc E_BadRowpm E_BadRowct E_BadRowc1 E_BadRowc2 : Value} {E_BadRowod E_BadRowan E_BadRowcld E_BadRowcdd : Option Addr} {E_BadRowcda E_BadRowcc : Addr} {E_BadRowosl E_BadRowcsl E_BadRowccs : Array (Option Value)} {E_BadRowvs : Array Value} {E_BadRowfile : Str} {E_BadRowtf : Tok} (E_BadRowl : K.lookup E_BadRowf = some ⟨E_BadRowoc, E_BadRowod, .func (PySem.W.ksFn "__init__" "BadRow.__init__" (L2.defArgs (inClass (top 3) 0)) (L2.defBody (inClass (top 3) 0)) (L2.defScope (inClass (top 3) 0)) .none E_BadRowkV E_BadRowdoc E_BadRowpm E_BadRowan (.ref E_BadRowcda) E_BadRowct E_BadRowcc), E_BadRowosl⟩) (E_BadRowco : PySem.W.codeIn K (.ref E_BadRowcda) "BadRow.__init__" = true) (E_BadRowce : K.lookup E_BadRowcc = some ⟨E_BadRowc1, E_BadRowcld, .cell (some (.ref E_BadRow)), E_BadRowcsl⟩) (E_BadRowcv : K.lookup E_BadRowcda = some ⟨E_BadRowc2, E_BadRowcdd, .fields E_BadRowvs, E_BadRowccs⟩) (E_BadRowv2 : E_BadRowvs[2]? = some (.str E_BadRowfile E_BadRowtf)) (E_BadRowfi : ((l.prog.main.file : Str) == E_BadRowfile) = true)
    (Etp : PySem.W.nsIn K PySem.cStatics "thirdparty.any" = some none) (Esu : PySem.W.nsIn K mainGlobals "super" = some none) (Eto : (l.prog.main.scope.names.lookup ("super" : Str)).isSome = false)
    {W_law_why : Addr} {W_law_whyod W_law_whyan : Option Addr} {W_law_whysl : Array (Option Value)} {W_law_whyoc W_law_whykV W_law_whydc W_law_whypm W_law_whycd W_law_whyct : Value} (W_law_whya : PySem.W.nsIn K mainGlobals "_law_why" = some (some (.ref W_law_why))) (W_law_whyl : K.lookup W_law_why = some ⟨W_law_whyoc, W_law_whyod, .func (PySem.W.fnOf "_law_why" "_law_why" (defArgs (top 19)) (defBody (top 19)) (defScope (top 19)) .none W_law_whykV W_law_whydc W_law_whypm W_law_whyan W_law_whycd W_law_whyct), W_law_whysl⟩) (W_law_whyc : PySem.W.codeIn K W_law_whycd "_law_why" = true) (W_law_whyk : PySem.W.keepIn K (.ref W_law_why) = true) (W_law_whyBadNumberBadNumber : PySem.W.subIn K (.ref E_BadNumber) (.ref E_BadNumber) = some true) (W_law_whyBadNumberBadRow : PySem.W.subIn K (.ref E_BadNumber) (.ref E_BadRow) = some false) (W_law_whyBadRowBadNumber : PySem.W.subIn K (.ref E_BadRow) (.ref E_BadNumber) = some false) (W_law_whyBadRowBadRow : PySem.W.subIn K (.ref E_BadRow) (.ref E_BadRow) = some true)
    {cLo : Value} {cLd : Option Addr} {cLv : Array Value} {cLs : Array (Option Value)} {PL : Addr} (cLl : K.lookup cL = some ⟨cLo, cLd, .fields cLv, cLs⟩) (cLp : cLv[11]? = some (.ref PL)) (cLh : PySem.W.codeHdIn K cL PL = true) (cLn : K.lookup PL = none) (cLt : tabsOf K = [(PL, (envOfC "law" (defScope s_law) 0 0 .none).qual ++ "<lambda>")]) (nf_Machine_Graphh : PySem.W.subIn K (.ref C0) (.ref C1) = some false) (kn_Machine_Graphh1 : PySem.W.isClsIn K C1 = true) (kn_Machine_Graphh2 : PySem.W.typeIn K (.ref C1) = some (.type "type")) (kn_Machine_Graphh3 : PySem.W.subIn K (.ref C0) (.ref C1) = some false) (kn_Machine_Graphh4 : (C0 == C1) = false)
    (y0 : PySem.W.nsIn K mainGlobals "Line" = some none)
    (y1 : PySem.W.nsIn K mainGlobals "Scope" = some none)
    (y2 : PySem.W.nsIn K mainGlobals "Work" = some none)
    (y3 : PySem.W.nsIn K mainGlobals "Flat" = some none)
    (y4 : PySem.W.nsIn K mainGlobals "Builder" = some none)
    (y5 : PySem.W.nsIn K mainGlobals "Sight" = some none)
    (y6 : PySem.W.nsIn K mainGlobals "Found" = some none)
    (y7 : PySem.W.nsIn K mainGlobals "Barred" = some none)
    (y8 : PySem.W.nsIn K mainGlobals "Search" = some none)
    (y9 : PySem.W.nsIn K mainGlobals "Broken" = some none)
    (y10 : PySem.W.nsIn K mainGlobals "FirstBreak" = some none)
    (y11 : PySem.W.nsIn K mainGlobals "NoBreak" = some none)
    (y12 : PySem.W.nsIn K mainGlobals "KeptBySteps" = some none)
    (y13 : PySem.W.nsIn K mainGlobals "OpenSteps" = some none)
    (y14 : PySem.W.nsIn K mainGlobals "Way" = some none)
    (y15 : PySem.W.nsIn K mainGlobals "Shut" = some none)
    (y16 : PySem.W.nsIn K mainGlobals "Kept" = some none)
    (y17 : PySem.W.nsIn K mainGlobals "Frames" = some none)
    (y18 : PySem.W.nsIn K mainGlobals "Open" = some none)
    (y19 : PySem.W.nsIn K mainGlobals "Fallen" = some none)
    (y20 : PySem.W.nsIn K mainGlobals "Before" = some none)
    (y21 : PySem.W.nsIn K mainGlobals "Project" = some none)
    (z0 : PySem.W.nsIn K mainGlobals "all" = some none)
    (z1 : PySem.W.nsIn K mainGlobals "bool" = some none)
    (z2 : PySem.W.nsIn K mainGlobals "enumerate" = some none)
    (z3 : PySem.W.nsIn K mainGlobals "int" = some none)
    (z4 : PySem.W.nsIn K mainGlobals "isinstance" = some none)
    (z5 : PySem.W.nsIn K mainGlobals "len" = some none)
    (z6 : PySem.W.nsIn K mainGlobals "list" = some none)
    (z7 : PySem.W.nsIn K mainGlobals "repr" = some none)
    (z8 : PySem.W.nsIn K mainGlobals "tuple" = some none) :
    LawGT l w K CX0 9 63 "_law_script" mg fa h := by
  have e := hfa.symm.trans (PySem.W.mg_of X G a15)
  cases e
  have T : Txt mg := ⟨fun x hx => by
    simp only [List.mem_cons, List.not_mem_nil, or_false] at hx
    rcases hx with rfl | rfl | rfl | rfl | rfl | rfl | rfl | rfl | rfl
    · exact PySem.W.mg_none_of X G z0
    · exact PySem.W.mg_none_of X G z1
    · exact PySem.W.mg_none_of X G z2
    · exact PySem.W.mg_none_of X G z3
    · exact PySem.W.mg_none_of X G z4
    · exact PySem.W.mg_none_of X G z5
    · exact PySem.W.mg_none_of X G z6
    · exact PySem.W.mg_none_of X G z7
    · exact PySem.W.mg_none_of X G z8⟩
  have m0 := PySem.W.mg_of X G aC0
  have cl0 : Cls K C0 := ⟨pg0, hd0, po0, sa0⟩
  have m1 := PySem.W.mg_of X G aC1
  have cl1 : Cls K C1 := ⟨pg1, hd1, po1, sa1⟩
  have m2 := PySem.W.mg_of X G aC2
  have cl2 : Cls K C2 := ⟨pg2, hd2, po2, sa2⟩
  have TF : FieldsOk ⟨K, mg⟩ tbl := fields_mkA fun p hp => by
    simp only [tblRows, tblR0, tblR1, tblR2, tblR3, tblR4, tblR5, List.mem_append, List.mem_cons, List.not_mem_nil, or_false, or_assoc] at hp
    rcases hp with rfl | rfl | rfl | rfl | rfl | rfl | rfl | rfl | rfl | rfl | rfl | rfl | rfl | rfl | rfl | rfl | rfl | rfl | rfl | rfl | rfl | rfl | rfl | rfl | rfl | rfl | rfl | rfl | rfl | rfl | rfl | rfl | rfl | rfl | rfl | rfl | rfl | rfl | rfl | rfl | rfl | rfl | rfl | rfl | rfl | rfl | rfl | rfl | rfl | rfl | rfl | rfl | rfl | rfl | rfl | rfl | rfl | rfl | rfl | rfl | rfl | rfl | rfl | rfl | rfl | rfl
    · exact .inr (PySem.W.mg_none_of X G y0)
    · exact .inr (PySem.W.mg_none_of X G y0)
    · exact .inr (PySem.W.mg_none_of X G y0)
    · exact .inr (PySem.W.mg_none_of X G y1)
    · exact .inr (PySem.W.mg_none_of X G y1)
    · exact .inr (PySem.W.mg_none_of X G y1)
    · exact .inr (PySem.W.mg_none_of X G y2)
    · exact .inr (PySem.W.mg_none_of X G y2)
    · exact .inr (PySem.W.mg_none_of X G y2)
    · exact .inr (PySem.W.mg_none_of X G y2)
    · exact .inr (PySem.W.mg_none_of X G y2)
    · exact .inr (PySem.W.mg_none_of X G y2)
    · exact .inr (PySem.W.mg_none_of X G y3)
    · exact .inr (PySem.W.mg_none_of X G y3)
    · exact .inl ⟨C0, m0, cl0, na0_0⟩
    · exact .inl ⟨C0, m0, cl0, na0_1⟩
    · exact .inr (PySem.W.mg_none_of X G y4)
    · exact .inr (PySem.W.mg_none_of X G y4)
    · exact .inr (PySem.W.mg_none_of X G y4)
    · exact .inl ⟨C1, m1, cl1, na1_0⟩
    · exact .inl ⟨C1, m1, cl1, na1_1⟩
    · exact .inl ⟨C1, m1, cl1, na1_2⟩
    · exact .inl ⟨C1, m1, cl1, na1_3⟩
    · exact .inl ⟨C1, m1, cl1, na1_4⟩
    · exact .inl ⟨C2, m2, cl2, na2_0⟩
    · exact .inl ⟨C2, m2, cl2, na2_1⟩
    · exact .inl ⟨C2, m2, cl2, na2_2⟩
    · exact .inr (PySem.W.mg_none_of X G y5)
    · exact .inr (PySem.W.mg_none_of X G y5)
    · exact .inr (PySem.W.mg_none_of X G y5)
    · exact .inr (PySem.W.mg_none_of X G y5)
    · exact .inr (PySem.W.mg_none_of X G y5)
    · exact .inr (PySem.W.mg_none_of X G y6)
    · exact .inr (PySem.W.mg_none_of X G y7)
    · exact .inr (PySem.W.mg_none_of X G y8)
    · exact .inr (PySem.W.mg_none_of X G y8)
    · exact .inr (PySem.W.mg_none_of X G y8)
    · exact .inr (PySem.W.mg_none_of X G y8)
    · exact .inr (PySem.W.mg_none_of X G y8)
    · exact .inr (PySem.W.mg_none_of X G y9)
    · exact .inr (PySem.W.mg_none_of X G y10)
    · exact .inr (PySem.W.mg_none_of X G y10)
    · exact .inr (PySem.W.mg_none_of X G y11)
    · exact .inr (PySem.W.mg_none_of X G y12)
    · exact .inr (PySem.W.mg_none_of X G y12)
    · exact .inr (PySem.W.mg_none_of X G y13)
    · exact .inr (PySem.W.mg_none_of X G y13)
    · exact .inr (PySem.W.mg_none_of X G y14)
    · exact .inr (PySem.W.mg_none_of X G y14)
    · exact .inr (PySem.W.mg_none_of X G y15)
    · exact .inr (PySem.W.mg_none_of X G y16)
    · exact .inr (PySem.W.mg_none_of X G y16)
    · exact .inr (PySem.W.mg_none_of X G y17)
    · exact .inr (PySem.W.mg_none_of X G y17)
    · exact .inr (PySem.W.mg_none_of X G y17)
    · exact .inr (PySem.W.mg_none_of X G y18)
    · exact .inr (PySem.W.mg_none_of X G y18)
    · exact .inr (PySem.W.mg_none_of X G y19)
    · exact .inr (PySem.W.mg_none_of X G y20)
    · exact .inr (PySem.W.mg_none_of X G y20)
    · exact .inr (PySem.W.mg_none_of X G y20)
    · exact .inr (PySem.W.mg_none_of X G y20)
    · exact .inr (PySem.W.mg_none_of X G y21)
    · exact .inr (PySem.W.mg_none_of X G y21)
    · exact .inr (PySem.W.mg_none_of X G y21)
    · exact .inr (PySem.W.mg_none_of X G y21)
  have ic_Graph : IsC K mg "Graph" := ⟨C0, m0, cl0, ia0, ib0, id0, ie0, kit_self⟩
  have ic_Machine : IsC K mg "Machine" := ⟨C1, m1, cl1, ia1, ib1, id1, ie1, kit_self⟩
  have nf_Machine_Graph : NotF K mg "Machine" "Graph" := ⟨⟨C1, C0, m1, m0, notF_of nf_Machine_Graphh⟩⟩
  have kn_Machine_Graph : KitNo K mg "Machine" "Graph" := ⟨⟨C1, C0, m1, m0, kit_no kn_Machine_Graphh1 kn_Machine_Graphh2 kn_Machine_Graphh3 kn_Machine_Graphh4⟩⟩
  have F0 := fun_mk (st := s__law_pen) l0 c0 k0
  have F1 := fun_mk (st := s_is_count) l1 c1 k1
  have F2 := fun_mk (st := s_is_literal) l2 c2 k2
  have F3 := fun_mk (st := s_are_gates) l3 c3 k3
  have F4 := fun_mk (st := s_Graph___init__) l4 c4 k4
  have F5 := fun_mk (st := s__law_draw) l5 c5 k5
  have F6 := fun_mk (st := s__law_pick) l6 c6 k6
  have F7 := fun_mk (st := s_is_bit) l7 c7 k7
  have F8 := fun_mk (st := s_are_bits) l8 c8 k8
  have F9 := fun_mk (st := s_R_Machine___init__) l9 c9 k9
  have F10 := fun_mk (st := s_Machine___init__) l10 c10 k10
  have F11 := fun_mk (st := s_Graph___eq__) l11 c11 k11
  have F12 := fun_mk (st := s_Machine___eq__) l12 c12 k12
  have F13 := fun_mk (st := s_as_given) l13 c13 k13
  have F14 := fun_mk (st := s_Unrolled___init__) l14 c14 k14
  have F15 := fun_mk (st := s_law) l15 c15 k15
  have tE_BadNumber : PySem.ErrX.BadNumberT l.prog K mg E_BadNumber E_BadNumberf (inClass (top 2) 0) := {
    t := { gC := PySem.W.mg_of X G E_BadNumberg, cls := ⟨_, _, _, _, _, _, _, _, _, _, _, _, _, _, _, E_BadNumbercl, E_BadNumberbv⟩, sa := E_BadNumbersa, ga := E_BadNumberga, gg := E_BadNumbergg, noN := fun p hp => by
              simp only [List.mem_cons, List.not_mem_nil, or_false] at hp
              rcases hp with rfl | rfl
              · exact E_BadNumbern0
              · exact E_BadNumbern1
           , iC := E_BadNumberi, tC := E_BadNumbert, kC := E_BadNumberk, exC := E_BadNumberex, tyC := E_BadNumberty, hdC := E_BadNumberhd, sup := E_BadNumbersu, ve := E_BadNumberve, own := E_BadNumberow, tp := Etp, ms := PySem.W.mg_none_of X G Esu, top := Eto,
           fn := ⟨_, _, _, _, _, _, _, _, _, _, _, _, _, _, _, _, _, _, _, E_BadNumberl, E_BadNumberco, E_BadNumberce, E_BadNumbercv, E_BadNumberv2, E_BadNumberfi⟩ }
    a := ⟨_, _, _, rfl⟩
    b := ⟨_, _, _, _, _, _, _, _, _, _, _, _, _, _, _, rfl, by first | rfl | decide +kernel⟩
    s := rfl }
  have e_BadNumber : PySem.ErrX.ErrFacts l.prog w K mg E_BadNumber "BadNumber" ["what", "number"] := PySem.ErrX.BadNumber_facts tE_BadNumber
  have tE_BadRow : PySem.ErrX.BadRowT l.prog K mg E_BadRow E_BadRowf (inClass (top 3) 0) := {
    t := { gC := PySem.W.mg_of X G E_BadRowg, cls := ⟨_, _, _, _, _, _, _, _, _, _, _, _, _, _, _, E_BadRowcl, E_BadRowbv⟩, sa := E_BadRowsa, ga := E_BadRowga, gg := E_BadRowgg, noN := fun p hp => by
              simp only [List.mem_cons, List.not_mem_nil, or_false] at hp
              rcases hp with rfl
              · exact E_BadRown0
           , iC := E_BadRowi, tC := E_BadRowt, kC := E_BadRowk, exC := E_BadRowex, tyC := E_BadRowty, hdC := E_BadRowhd, sup := E_BadRowsu, ve := E_BadRowve, own := E_BadRowow, tp := Etp, ms := PySem.W.mg_none_of X G Esu, top := Eto,
           fn := ⟨_, _, _, _, _, _, _, _, _, _, _, _, _, _, _, _, _, _, _, E_BadRowl, E_BadRowco, E_BadRowce, E_BadRowcv, E_BadRowv2, E_BadRowfi⟩ }
    a := ⟨_, _, rfl⟩
    b := ⟨_, _, _, _, _, _, _, _, _, _, rfl, by first | rfl | decide +kernel⟩
    s := rfl }
  have e_BadRow : PySem.ErrX.ErrFacts l.prog w K mg E_BadRow "BadRow" ["row"] := PySem.ErrX.BadRow_facts tE_BadRow
  have FW_law_why := fun_mk (st := top 19) W_law_whyl W_law_whyc W_law_whyk
  have c__law_why : WhyG l.prog w K mg "_law_why" "_law_call" (top 19) ["_law_call", "e"] "e" 1 [⟨"BadNumber", E_BadNumber, [.str "number", .fld "what", .rep "number"]⟩, ⟨"BadRow", E_BadRow, [.str "row", .rep "row"]⟩] := {
    ex := ⟨_, _, _, _, _, _, _, _, _, _, PySem.W.mg_of X G W_law_whya, W_law_whyk, W_law_whyl, W_law_whyc, FW_law_why.binds fun _ _ _ _ _ _ us hl => match us, hl with | [_], _ => rfl⟩
    sc := ⟨rfl, rfl, rfl, by decide +kernel, rfl, by decide +kernel, by decide +kernel⟩
    v0 := rfl
    va := .inl rfl
    bd := ⟨_, _, _, _, _, _, _, _, _, rfl, (.cons (.cons .str (.cons .fld (.cons .rep .nil))) (.cons (.cons .str (.cons .rep .nil)) .nil))⟩
    hi := rfl
    hl := rfl
    hv := .inl rfl
    rg := rfl
    rm := T.m "repr" (by decide)
    gl := fun r hr => by
      simp only [List.mem_cons, List.not_mem_nil, or_false] at hr
      rcases hr with rfl | rfl
      · exact ⟨rfl, by show ("BadNumber" == ("__debug__" : Str)) = false; decide⟩
      · exact ⟨rfl, by show ("BadRow" == ("__debug__" : Str)) = false; decide⟩
    dn := by decide
    rs := {
      gC := fun r hr => by
        simp only [List.mem_cons, List.not_mem_nil, or_false] at hr
        rcases hr with rfl | rfl
        · exact e_BadNumber.gC
        · exact e_BadRow.gC
      xf := fun r hr => by
        simp only [List.mem_cons, List.not_mem_nil, or_false] at hr
        rcases hr with rfl | rfl
        · exact e_BadNumber.xf
        · exact e_BadRow.xf
      no := fun r hr f hf => by
        simp only [List.mem_cons, List.not_mem_nil, or_false] at hr
        rcases hr with rfl | rfl
        · have hf : f ∈ (["what", "number"] : List Str) := hf
          simp only [List.mem_cons, List.not_mem_nil, or_false] at hf
          rcases hf with rfl | rfl <;> exact e_BadNumber.noN _ (by decide +kernel)
        · have hf : f ∈ (["row"] : List Str) := hf
          simp only [List.mem_cons, List.not_mem_nil, or_false] at hf
          rcases hf with rfl <;> exact e_BadRow.noN _ (by decide +kernel)
      ex := fun r hr q hq => by
        simp only [List.mem_cons, List.not_mem_nil, or_false] at hr
        simp only [List.mem_cons, List.not_mem_nil, or_false] at hq
        rcases hr with rfl | rfl <;> rcases hq with rfl | rfl
        · exact (exm_one e_BadNumber.exC E_BadNumbercl e_BadNumber.tyC W_law_whyBadNumberBadNumber).trans (by show some true = some (decide ("BadNumber" = ("BadNumber" : Str))); decide +kernel)
        · exact (exm_one e_BadRow.exC E_BadRowcl e_BadRow.tyC W_law_whyBadNumberBadRow).trans (by show some false = some (decide ("BadNumber" = ("BadRow" : Str))); decide +kernel)
        · exact (exm_one e_BadNumber.exC E_BadNumbercl e_BadNumber.tyC W_law_whyBadRowBadNumber).trans (by show some false = some (decide ("BadRow" = ("BadNumber" : Str))); decide +kernel)
        · exact (exm_one e_BadRow.exC E_BadRowcl e_BadRow.tyC W_law_whyBadRowBadRow).trans (by show some true = some (decide ("BadRow" = ("BadRow" : Str))); decide +kernel)
      dj := fun r hr q hq e => by
        simp only [List.mem_cons, List.not_mem_nil, or_false] at hr
        simp only [List.mem_cons, List.not_mem_nil, or_false] at hq
        rcases hr with rfl | rfl <;> rcases hq with rfl | rfl
        · exact rfl
        · exact absurd e (by show ¬ ("BadNumber" = ("BadRow" : Str)); decide +kernel)
        · exact absurd e (by show ¬ ("BadRow" = ("BadNumber" : Str)); decide +kernel)
        · exact rfl
      } }
  refine law_GT (q := (envOfC "law" (defScope s_law) 0 0 .none).qual ++ "<lambda>") (fd := PySem.W.fnOf "law" "law" (defArgs s_law) (defBody s_law) (defScope s_law) .none kV15 dc15 pm15 an15 (.ref cL) ct15) (by decide) cLt (TB "law" (List.mem_singleton_self _) fa cL PL _ _ _ _ _ _ hfa l15 rfl rfl cLl cLp) cLn (PySem.W.codeHd_of_K X cLh) (fun s v => .of_eq rfl) fun base _ _ LG => ?_
  have C_0 := ok__law_pen (P := l.prog) (w := w) (base := base) T TF F0 (PySem.W.mg_of X G a0)
  have C_1 := ok_is_count (P := l.prog) (w := w) (base := base) T TF F1 (PySem.W.mg_of X G a1)
  have C_2 := ok_is_literal (P := l.prog) (w := w) (base := base) T TF C_1 F2 (PySem.W.mg_of X G a2)
  have C_3 := ok_are_gates (P := l.prog) (w := w) (base := base) T TF C_2 F3 (PySem.W.mg_of X G a3)
  have C_4 : MakG l.prog w K mg base 4 "Graph" ["self", "leaves", "gates"] sem_Graph___init__ := ⟨C0, f4, _, ⟨mk0, a4, i4, kc0⟩, ok_Graph___init__ T TF C_1 C_3 F4, m0, F4.binds fun _ _ _ _ _ _ us hl => match us, hl with | [_, _, _], _ => rfl⟩
  have C_5 := ok__law_draw (P := l.prog) (w := w) (base := base) T TF F5 (PySem.W.mg_of X G a5)
  have C_6 := ok__law_pick (P := l.prog) (w := w) (base := base) T TF C_5 F6 (PySem.W.mg_of X G a6)
  have C_7 := ok_is_bit (P := l.prog) (w := w) (base := base) T TF C_1 F7 (PySem.W.mg_of X G a7)
  have C_8 := ok_are_bits (P := l.prog) (w := w) (base := base) T TF C_7 F8 (PySem.W.mg_of X G a8)
  have C_9 : MakX l.prog w K mg base 4 "Machine" ["self", "graph", "inputs", "resets", "nexts", "wish"] sem_R_Machine___init__ := ⟨⟨C1, f9, _, ⟨mk1, a9, i9, kc1⟩, ok_R_Machine___init__ T TF C_1 C_8 C_2 e_BadNumber e_BadRow F9, m1, F9.binds fun _ _ _ _ _ _ us hl => match us, hl with | [_, _, _, _, _, _], _ => rfl⟩⟩
  have C_10 : MakG l.prog w K mg base 4 "Machine" ["self", "graph", "inputs", "resets", "nexts", "wish"] sem_Machine___init__ := ⟨C1, f10, _, ⟨mk1, a10, i10, kc1⟩, ok_Machine___init__ T TF C_1 C_8 C_2 F10, m1, F10.binds fun _ _ _ _ _ _ us hl => match us, hl with | [_, _, _, _, _, _], _ => rfl⟩
  have C_11 : MetG l.prog w K mg base 1 "Graph" "__eq__" ["self", "other"] sem_Graph___eq__ := ⟨C0, f11, _, cl0, ⟨a11, i11, k11⟩, ok_Graph___eq__ T TF ic_Graph F11, m0, F11.binds fun _ _ _ _ _ _ us hl => match us, hl with | [_, _], _ => rfl⟩
  have C_12 : MetG l.prog w K mg base 2 "Machine" "__eq__" ["self", "other"] sem_Machine___eq__ := ⟨C1, f12, _, cl1, ⟨a12, i12, k12⟩, ok_Machine___eq__ T TF C_11 ic_Graph ic_Machine kn_Machine_Graph F12, m1, F12.binds fun _ _ _ _ _ _ us hl => match us, hl with | [_, _], _ => rfl⟩
  have C_13 := ok_as_given (P := l.prog) (w := w) (base := base) T TF F13 (PySem.W.mg_of X G a13)
  have C_14 : MakG l.prog w K mg base 2 "Unrolled" ["self", "graph", "states", "wishes"] sem_Unrolled___init__ := ⟨C2, f14, _, ⟨mk2, a14, i14, kc2⟩, ok_Unrolled___init__ T TF C_13 F14, m2, F14.binds fun _ _ _ _ _ _ us hl => match us, hl with | [_, _, _, _], _ => rfl⟩
  exact fn_lawG (ok_law T TF C_0 C_4 C_6 C_9 C_5 C_10 C_11 C_12 C_14 nf_Machine_Graph c__law_why LG F15 rfl) truth
end W23

end

section
set_option Elab.async false
set_option linter.all false
set_option maxRecDepth 100000
namespace W23
open PySem L2 RZ DL PyProof.Rows
@[irreducible] def d_p6 : MS :=
  (sSeq (sAsg 9 (mMap O.sh (mTup (mCons (mMap O.toD (mCall (f1 tupleD) (mConsB true (mNameB 7) (mPure [])))) (mCons (mMap O.toD (mCall (f1 tupleD) (mConsB true (mNameB 8) (mPure [])))) (mPure []))))))
  (sSeq (sAsg 10 (mMakeX "Machine" sem_Machine___init__ [some 2, none, some 7, some 8, none] (mHas 2 (mConsO (mMap O.sh (mPure (.int 1))) (mHas 7 (mHas 8 (mConsO (mMap O.sh (mPure (.int 11))) (mPure []))))))))
  (sSeq (sPut2L 7 8 1 1 (mTup (mCons (mPure (.int 0)) (mCons (mPure (.int 0)) (mPure [])))))
  (sSeq (sIf (mOrT (mBl (mOpS neO (mMap O.sh (mTup (mCons (mFldV tbl 10 "resets") (mCons (mFldV tbl 10 "nexts") (mPure []))))) (mNameB 9))) (mOrT (mBl (mOpS neO (mMap O.sh (mTup (mCons (mFldV tbl 10 "inputs") (mCons (mFldV tbl 10 "wish") (mPure []))))) (mMap (fun d => ((none : Option Nat), O.sh d)) (mTup (mCons (mPure (.int 1)) (mCons (mPure (.int 11)) (mPure []))))))) (mMap (fun b => !b) (mBl (mEqX "Graph" sem_Graph___eq__ (mMap O.sh (mFldV tbl 10 "graph")) (mMap O.sh (mNameV 2))))))) (sRet (mMap O.sh (mPure (.bl false)))) sNext)
  (sSeq (sIf (mOrT (mMap (fun b => !b) (mBl (mEqX "Machine" sem_Machine___eq__ (mMap O.sh (mNameV 10)) (mMap O.sh (mMap O.toD (mMakeX "Machine" sem_Machine___init__ [none, none, none, none, none] (mConsO (mMakeX "Graph" sem_Graph___init__ [none, none] (mConsO (mMap O.sh (mPure (.int 3))) (mConsO (mLst (mCons (mMap O.toD (mLst (mCons (mPure (.int 4)) (mCons (mPure (.int 2)) (mPure []))))) (mCons (mMap O.toD (mLst (mCons (mPure (.int 9)) (mCons (mPure (.int 7)) (mPure []))))) (mPure [])))) (mPure [])))) (mConsO (mMap O.sh (mPure (.int 1))) (mConsO (mMap O.sh (mBind (mSubN 9 (mPure (.int 0))) asSh)) (mConsO (mMap O.sh (mBind (mSubN 9 (mPure (.int 1))) asSh)) (mConsO (mMap O.sh (mPure (.int 11))) (mPure [])))))))))))) (mBl (mEqX2 "Machine" "Graph" sem_Machine___eq__ (mMap O.sh (mNameV 10)) (mMap O.sh (mNameV 2))))) (sRet (mMap O.sh (mPure (.bl false)))) sNext)
  (sSeq (sAsg 11 (mLst (mCons (mMap O.toD (mMakeX "Machine" sem_Machine___init__ [some 2, none, none, none, none] (mHas 2 (mConsO (mMap O.sh (mPure (.int 1))) (mConsO (mMap O.sh (mBind (mSubN 9 (mPure (.int 0))) asSh)) (mConsO (mMap O.sh (mBind (mSubN 9 (mPure (.int 1))) asSh)) (mConsO (mMap O.sh (mPure (.int 10))) (mPure [])))))))) (mCons (mMap O.toD (mMakeX "Machine" sem_Machine___init__ [some 2, none, none, none, none] (mHas 2 (mConsO (mMap O.sh (mPure (.int 1))) (mConsO (mOpS addD (mSlice true true (mSubN 9 (mPure (.int 0))) (mPure none) (mPart (mPure (.int 1)))) (mMap (fun d => ((none : Option Nat), O.sh d)) (mTup (mCons (mPure (.int 0)) (mPure []))))) (mConsO (mMap O.sh (mBind (mSubN 9 (mPure (.int 1))) asSh)) (mConsO (mMap O.sh (mPure (.int 11))) (mPure [])))))))) (mPure [])))))
  (sSeq (sApp 11 (mMap O.toD (mMakeX "Machine" sem_Machine___init__ [some 2, none, none, none, none] (mHas 2 (mConsO (mMap O.sh (mPure (.int 1))) (mConsO (mMap O.sh (mBind (mSubN 9 (mPure (.int 0))) asSh)) (mConsO (mOpS addD (mSlice true true (mSubN 9 (mPure (.int 1))) (mPure none) (mPart (mPure (.int 1)))) (mMap (fun d => ((none : Option Nat), O.sh d)) (mTup (mCons (mPure (.int 2)) (mPure []))))) (mConsO (mMap O.sh (mPure (.int 11))) (mPure [])))))))))
  (sSeq (sApp 11 (mMap O.toD (mMakeX "Machine" sem_Machine___init__ [none, none, none, none, none] (mConsO (mMakeX "Graph" sem_Graph___init__ [none, none] (mConsO (mMap O.sh (mPure (.int 3))) (mConsO (mLst (mCons (mTup (mCons (mPure (.int 4)) (mCons (mPure (.int 2)) (mPure [])))) (mCons (mTup (mCons (mPure (.int 9)) (mCons (mPure (.int 5)) (mPure [])))) (mPure [])))) (mPure [])))) (mConsO (mMap O.sh (mPure (.int 1))) (mConsO (mMap O.sh (mBind (mSubN 9 (mPure (.int 0))) asSh)) (mConsO (mMap O.sh (mBind (mSubN 9 (mPure (.int 1))) asSh)) (mConsO (mMap O.sh (mPure (.int 11))) (mPure [])))))))))
  (sSeq (sIf (mBl (mOpS neO (mLc [13] (mBind (mNameV 11) seqD) (bName 13) (mBl (mEqX "Machine" sem_Machine___eq__ (mMap O.sh (mNameV 10)) (mMap O.sh (mNameV 13)))) (mPure (.int 1))) (mMap (fun o => ((none : Option Nat), o)) (mLst (mPure []))))) (sRet (mMap O.sh (mPure (.bl false)))) sNext)
  (sSeq (sAsg 12 (mMakeX "Unrolled" sem_Unrolled___init__ [some 2, none, none] (mHas 2 (mConsO (mLst (mCons (mTup (mCons (mPure (.int 2)) (mPure []))) (mPure []))) (mConsO (mLst (mCons (mPure (.int 4)) (mPure []))) (mPure []))))))
  (sRet (mMap O.sh (mAndV (mMap O.toD (mEqX "Graph" sem_Graph___eq__ (mMap O.sh (mFldV tbl 12 "graph")) (mMap O.sh (mNameV 2)))) (mAndV (mMap O.toD (mOpS eqO (mMap O.sh (mFldV tbl 12 "states")) (mMap (fun d => ((none : Option Nat), O.sh d)) (mTup (mCons (mTup (mCons (mPure (.int 2)) (mPure []))) (mPure [])))))) (mMap O.toD (mOpS eqO (mMap O.sh (mFldV tbl 12 "wishes")) (mMap (fun d => ((none : Option Nat), O.sh d)) (mTup (mCons (mPure (.int 4)) (mPure []))))))))))))))))))))
@[irreducible] def d_p5 : MS :=
  (sSeq (sPar 7 8 (mConsO (mLst (mCons (mMap O.toD (mCallF sem__law_draw [some 1, none] (mHas 1 (mConsO (mMap O.sh (mPure (.int 2))) (mPure []))))) (mCons (mPure (.int 1)) (mPure [])))) (mConsO (mLst (mCons (mMap O.toD (mCallF sem__law_draw [some 1, none] (mHas 1 (mConsO (mMap O.sh (mPure (.int 12))) (mPure []))))) (mCons (mPure (.int 11)) (mPure [])))) (mPure []))))
  d_p6)
@[irreducible] def d_p4 : MS :=
  (sSeq (sIf (mBl (mOpS neO (mWhy [("BadNumber", [.str "number", .fld "what", .rep "number"]), ("BadRow", [.str "row", .rep "row"])] (mMakeX "Machine" sem_R_Machine___init__ [some 2, none, none, none, some 6] (mHas 2 (mConsO (mMap O.sh (mPure (.int 1))) (mConsO (mMap O.sh (mTup (mCons (mPure (.int 0)) (mCons (mPure (.int 1)) (mPure []))))) (mConsO (mMap O.sh (mTup (mCons (mPure (.int 8)) (mCons (mPure (.int 10)) (mPure []))))) (mHas 6 (mPure [])))))))) (mMap (fun d => ((none : Option Nat), O.sh d)) (mTup (mCons (mPure (.str "number")) (mCons (mPure (.str "wish")) (mCons (mMap O.toD (mCall (f1 reprD) (mConsB true (mNameB 6) (mPure [])))) (mPure [])))))))) (sRet (mMap O.sh (mPure (.bl false)))) sNext)
  d_p5)
@[irreducible] def d_p3 : MS :=
  (sSeq (sIf (mBl (mOpS neO (mWhy [("BadNumber", [.str "number", .fld "what", .rep "number"]), ("BadRow", [.str "row", .rep "row"])] (mMakeX "Machine" sem_R_Machine___init__ [some 2, none, none, some 5, some 6] (mHas 2 (mConsO (mMap O.sh (mPure (.int 1))) (mConsO (mMap O.sh (mTup (mCons (mPure (.int 0)) (mCons (mPure (.int 1)) (mPure []))))) (mHas 5 (mHas 6 (mPure [])))))))) (mMap (fun d => ((none : Option Nat), O.sh d)) (mTup (mCons (mPure (.str "row")) (mCons (mMap O.toD (mCall (f1 reprD) (mConsB true (mNameB 5) (mPure [])))) (mPure []))))))) (sRet (mMap O.sh (mPure (.bl false)))) sNext)
  d_p4)
@[irreducible] def d_p2 : MS :=
  (sSeq (sIf (mBl (mOpS neO (mWhy [("BadNumber", [.str "number", .fld "what", .rep "number"]), ("BadRow", [.str "row", .rep "row"])] (mMakeX "Machine" sem_R_Machine___init__ [some 2, none, some 4, some 5, some 6] (mHas 2 (mConsO (mMap O.sh (mPure (.int 1))) (mHas 4 (mHas 5 (mHas 6 (mPure [])))))))) (mMap (fun d => ((none : Option Nat), O.sh d)) (mTup (mCons (mPure (.str "row")) (mCons (mMap O.toD (mCall (f1 reprD) (mConsB true (mNameB 4) (mPure [])))) (mPure []))))))) (sRet (mMap O.sh (mPure (.bl false)))) sNext)
  d_p3)
@[irreducible] def d_p1 : MS :=
  (sSeq (sIf (mBl (mOpS neO (mWhy [("BadNumber", [.str "number", .fld "what", .rep "number"]), ("BadRow", [.str "row", .rep "row"])] (mMakeX "Machine" sem_R_Machine___init__ [some 2, some 3, some 4, some 5, some 6] (mHas 2 (mHas 3 (mHas 4 (mHas 5 (mHas 6 (mPure [])))))))) (mMap (fun d => ((none : Option Nat), O.sh d)) (mTup (mCons (mPure (.str "number")) (mCons (mPure (.str "inputs")) (mCons (mMap O.toD (mCall (f1 reprD) (mConsB true (mNameB 3) (mPure [])))) (mPure [])))))))) (sRet (mMap O.sh (mPure (.bl false)))) sNext)
  d_p2)
@[irreducible] def d_lap : MS :=
  (sSeq (sAsg 1 (mCallF sem__law_pen [some 0] (mHas 0 (mPure []))))
  (sSeq (sAsg 2 (mMakeX "Graph" sem_Graph___init__ [none, none] (mConsO (mMap O.sh (mPure (.int 3))) (mConsO (mLst (mCons (mTup (mCons (mPure (.int 4)) (mCons (mPure (.int 2)) (mPure [])))) (mCons (mTup (mCons (mPure (.int 9)) (mCons (mPure (.int 7)) (mPure [])))) (mPure [])))) (mPure [])))))
  (sSeq (sAsg 3 (mCallF sem__law_pick [some 1, none] (mHas 1 (mConsO (mLst (mCons (mNeg (mPure (.int 1))) (mCons (mPure (.int 4)) (mCons (mPure .non) (mCons (mPure (.bl true)) (mCons (mPure (.str "1")) (mCons (mTup (mCons (mPure (.int 1)) (mPure []))) (mPure [])))))))) (mPure [])))))
  (sSeq (sAsg 4 (mCallF sem__law_pick [some 1, none] (mHas 1 (mConsO (mLst (mCons (mPure .non) (mCons (mPure (.int 5)) (mCons (mTup (mCons (mPure (.int 0)) (mPure []))) (mCons (mTup (mCons (mPure (.int 0)) (mCons (mPure (.int 1)) (mCons (mPure (.int 1)) (mPure []))))) (mCons (mTup (mCons (mPure (.int 0)) (mCons (mPure (.int 2)) (mPure [])))) (mCons (mTup (mCons (mPure (.bl true)) (mCons (mPure (.int 0)) (mPure [])))) (mCons (mPure (.str "01")) (mCons (mTup (mCons (mPure (.int 0)) (mCons (mPure .non) (mPure [])))) (mPure [])))))))))) (mPure [])))))
  (sSeq (sAsg 5 (mCallF sem__law_pick [some 1, none] (mHas 1 (mConsO (mLst (mCons (mPure .non) (mCons (mPure (.int 5)) (mCons (mTup (mCons (mPure (.int 8)) (mPure []))) (mCons (mTup (mCons (mPure (.int 8)) (mCons (mPure (.int 10)) (mCons (mPure (.int 2)) (mPure []))))) (mCons (mTup (mCons (mPure (.int 8)) (mCons (mPure (.int 12)) (mPure [])))) (mCons (mTup (mCons (mPure (.int 8)) (mCons (mNeg (mPure (.int 1))) (mPure [])))) (mCons (mTup (mCons (mPure (.int 8)) (mCons (mPure (.bl true)) (mPure [])))) (mCons (mPure (.str "ab")) (mCons (mTup (mCons (mPure (.int 8)) (mCons (mPure .non) (mPure [])))) (mPure []))))))))))) (mPure [])))))
  (sSeq (sAsg 6 (mCallF sem__law_pick [some 1, none] (mHas 1 (mConsO (mLst (mCons (mNeg (mPure (.int 1))) (mCons (mPure (.int 12)) (mCons (mPure .non) (mCons (mPure (.bl true)) (mCons (mPure (.str "2")) (mCons (mTup (mCons (mPure (.int 2)) (mPure []))) (mPure [])))))))) (mPure [])))))
  d_p1))))))
theorem d_law_eq : d_law = d_lap := by
  unfold d_law d_lap d_p1 d_p2 d_p3 d_p4 d_p5 d_p6
  rfl

structure WS (o : OutS) (K : Ks) : Prop where
  h : wS o K
theorem step {m n : MS} {ρ ρ' : DL.Env} {K : Ks} (e : m ρ = .next ρ') (h : WS (n ρ') K) : WS (sSeq m n ρ) K := ⟨by rw [wS_seq, e]; exact h.h⟩
def isT : OutS → Bool
  | .ret (.fd (.sh (.bl true))) _ => true
  | _ => false
theorem isT_of {o : OutS} (h : isT o = true) : ∃ ρ, o = .ret (.sh (.bl true)) ρ := by
  unfold isT at h
  split at h
  · exact ⟨_, rfl⟩
  · cases h
theorem fin_of {o : OutS} {K : Ks} (h : isT o = true) (q : ∀ ρ, K.r (.sh (.bl true)) ρ) : WS o K := by
  refine ⟨?_⟩
  obtain ⟨ρ, e⟩ := isT_of h
  rw [e]
  exact q ρ
def odds : List D := [.int (-1), .int 4, .non, .bl true, .str "1", .tup [.int 1]]
def resetss : List D := [.non, .int 5, .tup [.int 0], .tup [.int 0, .int 1, .int 1], .tup [.int 0, .int 2], .tup [.bl true, .int 0], .str "01", .tup [.int 0, .non]]
def nextss : List D := [.non, .int 5, .tup [.int 8], .tup [.int 8, .int 10, .int 2], .tup [.int 8, .int 12], .tup [.int 8, .int (-1)], .tup [.int 8, .bl true], .str "ab", .tup [.int 8, .non]]
def wishs : List D := [.int (-1), .int 12, .non, .bl true, .str "2", .tup [.int 2]]
abbrev g0 : O := gO 3 [(4, 2), (9, 7)]
section
variable {K : Ks} {x0 p : Option O} {odd resets nexts wish : D}
theorem p1_w (h : odd ∈ odds) (q : WS (d_p2 [x0, p, some g0, some (.sh odd), some (.sh resets), some (.sh nexts), some (.sh wish), none, none, none, none, none, none, none]) K) : WS (d_p1 [x0, p, some g0, some (.sh odd), some (.sh resets), some (.sh nexts), some (.sh wish), none, none, none, none, none, none, none]) K := by
  unfold d_p1
  simp only [odds, List.mem_cons, List.not_mem_nil, or_false] at h
  rcases h with rfl | rfl | rfl | rfl | rfl | rfl
  · exact step (by kernel_rfl) q
  · exact step (by kernel_rfl) q
  · exact step (by kernel_rfl) q
  · exact step (by kernel_rfl) q
  · exact step (by kernel_rfl) q
  · exact step (by kernel_rfl) q
theorem p2_w (h : resets ∈ resetss) (q : WS (d_p3 [x0, p, some g0, some (.sh odd), some (.sh resets), some (.sh nexts), some (.sh wish), none, none, none, none, none, none, none]) K) : WS (d_p2 [x0, p, some g0, some (.sh odd), some (.sh resets), some (.sh nexts), some (.sh wish), none, none, none, none, none, none, none]) K := by
  unfold d_p2
  simp only [resetss, List.mem_cons, List.not_mem_nil, or_false] at h
  rcases h with rfl | rfl | rfl | rfl | rfl | rfl | rfl | rfl
  · exact step (by kernel_rfl) q
  · exact step (by kernel_rfl) q
  · exact step (by kernel_rfl) q
  · exact step (by kernel_rfl) q
  · exact step (by kernel_rfl) q
  · exact step (by kernel_rfl) q
  · exact step (by kernel_rfl) q
  · exact step (by kernel_rfl) q
theorem p3_w (h : nexts ∈ nextss) (q : WS (d_p4 [x0, p, some g0, some (.sh odd), some (.sh resets), some (.sh nexts), some (.sh wish), none, none, none, none, none, none, none]) K) : WS (d_p3 [x0, p, some g0, some (.sh odd), some (.sh resets), some (.sh nexts), some (.sh wish), none, none, none, none, none, none, none]) K := by
  unfold d_p3
  simp only [nextss, List.mem_cons, List.not_mem_nil, or_false] at h
  rcases h with rfl | rfl | rfl | rfl | rfl | rfl | rfl | rfl | rfl
  · exact step (by kernel_rfl) q
  · exact step (by kernel_rfl) q
  · exact step (by kernel_rfl) q
  · exact step (by kernel_rfl) q
  · exact step (by kernel_rfl) q
  · exact step (by kernel_rfl) q
  · exact step (by kernel_rfl) q
  · exact step (by kernel_rfl) q
  · exact step (by kernel_rfl) q
theorem p4_w (h : wish ∈ wishs) (q : WS (d_p5 [x0, p, some g0, some (.sh odd), some (.sh resets), some (.sh nexts), some (.sh wish), none, none, none, none, none, none, none]) K) : WS (d_p4 [x0, p, some g0, some (.sh odd), some (.sh resets), some (.sh nexts), some (.sh wish), none, none, none, none, none, none, none]) K := by
  unfold d_p4
  simp only [wishs, List.mem_cons, List.not_mem_nil, or_false] at h
  rcases h with rfl | rfl | rfl | rfl | rfl | rfl
  · exact step (by kernel_rfl) q
  · exact step (by kernel_rfl) q
  · exact step (by kernel_rfl) q
  · exact step (by kernel_rfl) q
  · exact step (by kernel_rfl) q
  · exact step (by kernel_rfl) q
theorem p6_w {r1 r2 : Nat} (h1 : r1 < 2) (h2 : r2 < 12) (q : ∀ ρ, K.r (.sh (.bl true)) ρ) : WS (d_p6 [x0, p, some g0, some (.sh odd), some (.sh resets), some (.sh nexts), some (.sh wish), some (.lst [natD r1, .int 1]), some (.lst [natD r2, .int 11]), none, none, none, none, none]) K := by
  have e : isT (d_p6 [x0, p, some g0, some (.sh odd), some (.sh resets), some (.sh nexts), some (.sh wish), some (.lst [natD r1, .int 1]), some (.lst [natD r2, .int 11]), none, none, none, none, none]) = true := by
    have a1 : r1 = 0 ∨ r1 = 1 := by omega
    have a2 : r2 = 0 ∨ r2 = 1 ∨ r2 = 2 ∨ r2 = 3 ∨ r2 = 4 ∨ r2 = 5 ∨ r2 = 6 ∨ r2 = 7 ∨ r2 = 8 ∨ r2 = 9 ∨ r2 = 10 ∨ r2 = 11 := by omega
    rcases a1 with rfl | rfl <;> rcases a2 with rfl | rfl | rfl | rfl | rfl | rfl | rfl | rfl | rfl | rfl | rfl | rfl <;> kernel_rfl
  exact fin_of e q
end
theorem pb0 {d : D} {r fs : DL.Env} : putBack (some (.sh d) :: r) [some 0] fs (some (.sh d) :: r) = some (.sh d) :: r := by
  cases fs with
  | nil => rfl
  | cons f fs => simp [putBack, slotSh]
theorem law_ok {ns : List Int} (hl : ns.length ≤ 63) : wM (sem_law [.sh (.fz (ns.map D.int))]) (fun r _ => r = .sh (.bl true)) nX := by
  refine sem_w [some (.sh (.fz (ns.map D.int))), none, none, none, none, none, none, none, none, none, none, none, none, none] rfl rfl ?_
  rw [d_law_eq]
  unfold d_lap
  rw [wS_seq]
  simp only [wO_some, wO_none, wO_ite, wM_ok, wM_bad, wM_pure, wM_bind, wM_map, wM_iteB, wM_iteM, wM_nameB, wM_nameS, wM_nameV, wM_nameM, wM_asSh, wM_cons, wM_consO, wM_consT, wM_consB, wM_tup, wM_lst, wM_opS, wM_opN, wM_bl, wM_andT, wM_orT, wM_if, wM_andV, wM_orV, wM_tru, wM_neg, wM_part, wM_slice, wM_call, wM_isi, wM_op1, wM_bO, wM_chain, wM_sub, wM_subN, wM_has, wM_callF, wM_make, wM_newK, wM_newT, wM_get1, wM_get2, wM_field, wM_seq, wM_rngA1, wM_rngA2, wM_enumL, wM_enumT, wM_zipL, wM_zipT, wS_next, wS_brk, wS_cont, wS_bad, wS_if, wS_ret, wS_retN, wS_expr, wS_asg, wS_tg, wS_par, wS_app, wS_put, wS_fldX, wO_bName0, wO_bNameS, wO_bTup, wO_bNil, wO_bCons, wO_fillN, wO_fillS, wO_fillP, putBack_some, putBack_none, putBack_nil, slotSh_s, slotSh_sh, slotSh_ct, slotSh_rc, wipe_nil, wipe_cons, back_nil, back_cons, rest_s, rest_n, rest_sh, rest_ct, rest_rc, add_ii, sub_ii, cmp_ii, eq_ii, ne_ii, is_nn, is_tn, is_ln, is_in, is_bn, is_bb, isn_nn, isn_tn, isn_ln, isn_in, len_l, len_t, int_i, int_b, abs_i, tup_l, tup_t, list_l, list_t, f1_ap, f2_ap, tru_b, tru_t, tru_l, tru_n, item_lstS, item_lstO, item_tupS, wO_map, wO_bind, isi_int_i, isi_int_b, isi_int_n, isi_int_t, isi_int_l, isi_int_s, isi_bool_i, isi_bool_b, isi_bool_n, isi_tl_t, isi_tl_l, isi_tl_i, isi_tl_n, isi_t_t, isi_t_l, isi_l_t, isi_l_l, slice_l, slice_t, shO_sh, blO_bl, blD_bl, intO_i, seq_l, seq_t, seq_f, ownL_l, two_ap, isSh_s, made_ok, toD_sh, toD_lst, mod_ii, mul_ii, div_ii, add_ll, add_tt, List.getElem?_cons_zero, List.getElem?_cons_succ, List.set_cons_zero, List.set_cons_succ, Option.join_some, Option.join_none, List.map_cons, List.map_nil, if_true, if_false, Bool.false_eq_true, reduceIte, Bool.true_or, Bool.or_true, Bool.false_or, Bool.true_and, Bool.and_true, Bool.false_and, Bool.and_false, true_and, and_true, Bool.not_true, Bool.not_false, decide_eq_true_eq, len0, len1, len2, len3, len4, len5, len6, abs2, pos2, wM_disp, wM_consP, isDk_dk, isDk_dt, toD_ct, Ct.toD]
  refine penB_w hl fun p0 fs hp0 => ?_
  simp only [pb0, wO_some, wO_none, wO_ite, wM_ok, wM_bad, wM_pure, wM_bind, wM_map, wM_iteB, wM_iteM, wM_nameB, wM_nameS, wM_nameV, wM_nameM, wM_asSh, wM_cons, wM_consO, wM_consT, wM_consB, wM_tup, wM_lst, wM_opS, wM_opN, wM_bl, wM_andT, wM_orT, wM_if, wM_andV, wM_orV, wM_tru, wM_neg, wM_part, wM_slice, wM_call, wM_isi, wM_op1, wM_bO, wM_chain, wM_sub, wM_subN, wM_has, wM_callF, wM_make, wM_newK, wM_newT, wM_get1, wM_get2, wM_field, wM_seq, wM_rngA1, wM_rngA2, wM_enumL, wM_enumT, wM_zipL, wM_zipT, wS_next, wS_brk, wS_cont, wS_bad, wS_if, wS_ret, wS_retN, wS_expr, wS_asg, wS_tg, wS_par, wS_app, wS_put, wS_fldX, wO_bName0, wO_bNameS, wO_bTup, wO_bNil, wO_bCons, wO_fillN, wO_fillS, wO_fillP, putBack_some, putBack_none, putBack_nil, slotSh_s, slotSh_sh, slotSh_ct, slotSh_rc, wipe_nil, wipe_cons, back_nil, back_cons, rest_s, rest_n, rest_sh, rest_ct, rest_rc, add_ii, sub_ii, cmp_ii, eq_ii, ne_ii, is_nn, is_tn, is_ln, is_in, is_bn, is_bb, isn_nn, isn_tn, isn_ln, isn_in, len_l, len_t, int_i, int_b, abs_i, tup_l, tup_t, list_l, list_t, f1_ap, f2_ap, tru_b, tru_t, tru_l, tru_n, item_lstS, item_lstO, item_tupS, wO_map, wO_bind, isi_int_i, isi_int_b, isi_int_n, isi_int_t, isi_int_l, isi_int_s, isi_bool_i, isi_bool_b, isi_bool_n, isi_tl_t, isi_tl_l, isi_tl_i, isi_tl_n, isi_t_t, isi_t_l, isi_l_t, isi_l_l, slice_l, slice_t, shO_sh, blO_bl, blD_bl, intO_i, seq_l, seq_t, seq_f, ownL_l, two_ap, isSh_s, made_ok, toD_sh, toD_lst, mod_ii, mul_ii, div_ii, add_ll, add_tt, List.getElem?_cons_zero, List.getElem?_cons_succ, List.set_cons_zero, List.set_cons_succ, Option.join_some, Option.join_none, List.map_cons, List.map_nil, if_true, if_false, Bool.false_eq_true, reduceIte, Bool.true_or, Bool.or_true, Bool.false_or, Bool.true_and, Bool.and_true, Bool.false_and, Bool.and_false, true_and, and_true, Bool.not_true, Bool.not_false, decide_eq_true_eq, len0, len1, len2, len3, len4, len5, len6, abs2, pos2, wM_disp, wM_consP, isDk_dk, isDk_dt, toD_ct, Ct.toD]
  refine (step (ρ' := [some (.sh (.fz (ns.map D.int))), some p0, some g0, none, none, none, none, none, none, none, none, none, none, none]) (by kernel_rfl) ⟨?_⟩).h
  rw [wS_seq]
  simp only [wO_some, wO_none, wO_ite, wM_ok, wM_bad, wM_pure, wM_bind, wM_map, wM_iteB, wM_iteM, wM_nameB, wM_nameS, wM_nameV, wM_nameM, wM_asSh, wM_cons, wM_consO, wM_consT, wM_consB, wM_tup, wM_lst, wM_opS, wM_opN, wM_bl, wM_andT, wM_orT, wM_if, wM_andV, wM_orV, wM_tru, wM_neg, wM_part, wM_slice, wM_call, wM_isi, wM_op1, wM_bO, wM_chain, wM_sub, wM_subN, wM_has, wM_callF, wM_make, wM_newK, wM_newT, wM_get1, wM_get2, wM_field, wM_seq, wM_rngA1, wM_rngA2, wM_enumL, wM_enumT, wM_zipL, wM_zipT, wS_next, wS_brk, wS_cont, wS_bad, wS_if, wS_ret, wS_retN, wS_expr, wS_asg, wS_tg, wS_par, wS_app, wS_put, wS_fldX, wO_bName0, wO_bNameS, wO_bTup, wO_bNil, wO_bCons, wO_fillN, wO_fillS, wO_fillP, putBack_some, putBack_none, putBack_nil, slotSh_s, slotSh_sh, slotSh_ct, slotSh_rc, wipe_nil, wipe_cons, back_nil, back_cons, rest_s, rest_n, rest_sh, rest_ct, rest_rc, add_ii, sub_ii, cmp_ii, eq_ii, ne_ii, is_nn, is_tn, is_ln, is_in, is_bn, is_bb, isn_nn, isn_tn, isn_ln, isn_in, len_l, len_t, int_i, int_b, abs_i, tup_l, tup_t, list_l, list_t, f1_ap, f2_ap, tru_b, tru_t, tru_l, tru_n, item_lstS, item_lstO, item_tupS, wO_map, wO_bind, isi_int_i, isi_int_b, isi_int_n, isi_int_t, isi_int_l, isi_int_s, isi_bool_i, isi_bool_b, isi_bool_n, isi_tl_t, isi_tl_l, isi_tl_i, isi_tl_n, isi_t_t, isi_t_l, isi_l_t, isi_l_l, slice_l, slice_t, shO_sh, blO_bl, blD_bl, intO_i, seq_l, seq_t, seq_f, ownL_l, two_ap, isSh_s, made_ok, toD_sh, toD_lst, mod_ii, mul_ii, div_ii, add_ll, add_tt, List.getElem?_cons_zero, List.getElem?_cons_succ, List.set_cons_zero, List.set_cons_succ, Option.join_some, Option.join_none, List.map_cons, List.map_nil, if_true, if_false, Bool.false_eq_true, reduceIte, Bool.true_or, Bool.or_true, Bool.false_or, Bool.true_and, Bool.and_true, Bool.false_and, Bool.and_false, true_and, and_true, Bool.not_true, Bool.not_false, decide_eq_true_eq, len0, len1, len2, len3, len4, len5, len6, abs2, pos2, wM_disp, wM_consP, isDk_dk, isDk_dt, toD_ct, Ct.toD]
  refine pickB_w (xs := odds) hp0 (.own _) (by simp [odds]) (by decide) (by omega) fun odd p1 ho hp1 => ?_
  simp only [hp0.sl, wO_some, wO_none, wO_ite, wM_ok, wM_bad, wM_pure, wM_bind, wM_map, wM_iteB, wM_iteM, wM_nameB, wM_nameS, wM_nameV, wM_nameM, wM_asSh, wM_cons, wM_consO, wM_consT, wM_consB, wM_tup, wM_lst, wM_opS, wM_opN, wM_bl, wM_andT, wM_orT, wM_if, wM_andV, wM_orV, wM_tru, wM_neg, wM_part, wM_slice, wM_call, wM_isi, wM_op1, wM_bO, wM_chain, wM_sub, wM_subN, wM_has, wM_callF, wM_make, wM_newK, wM_newT, wM_get1, wM_get2, wM_field, wM_seq, wM_rngA1, wM_rngA2, wM_enumL, wM_enumT, wM_zipL, wM_zipT, wS_next, wS_brk, wS_cont, wS_bad, wS_if, wS_ret, wS_retN, wS_expr, wS_asg, wS_tg, wS_par, wS_app, wS_put, wS_fldX, wO_bName0, wO_bNameS, wO_bTup, wO_bNil, wO_bCons, wO_fillN, wO_fillS, wO_fillP, putBack_some, putBack_none, putBack_nil, slotSh_s, slotSh_sh, slotSh_ct, slotSh_rc, wipe_nil, wipe_cons, back_nil, back_cons, rest_s, rest_n, rest_sh, rest_ct, rest_rc, add_ii, sub_ii, cmp_ii, eq_ii, ne_ii, is_nn, is_tn, is_ln, is_in, is_bn, is_bb, isn_nn, isn_tn, isn_ln, isn_in, len_l, len_t, int_i, int_b, abs_i, tup_l, tup_t, list_l, list_t, f1_ap, f2_ap, tru_b, tru_t, tru_l, tru_n, item_lstS, item_lstO, item_tupS, wO_map, wO_bind, isi_int_i, isi_int_b, isi_int_n, isi_int_t, isi_int_l, isi_int_s, isi_bool_i, isi_bool_b, isi_bool_n, isi_tl_t, isi_tl_l, isi_tl_i, isi_tl_n, isi_t_t, isi_t_l, isi_l_t, isi_l_l, slice_l, slice_t, shO_sh, blO_bl, blD_bl, intO_i, seq_l, seq_t, seq_f, ownL_l, two_ap, isSh_s, made_ok, toD_sh, toD_lst, mod_ii, mul_ii, div_ii, add_ll, add_tt, List.getElem?_cons_zero, List.getElem?_cons_succ, List.set_cons_zero, List.set_cons_succ, Option.join_some, Option.join_none, List.map_cons, List.map_nil, if_true, if_false, Bool.false_eq_true, reduceIte, Bool.true_or, Bool.or_true, Bool.false_or, Bool.true_and, Bool.and_true, Bool.false_and, Bool.and_false, true_and, and_true, Bool.not_true, Bool.not_false, decide_eq_true_eq, len0, len1, len2, len3, len4, len5, len6, abs2, pos2, wM_disp, wM_consP, isDk_dk, isDk_dt, toD_ct, Ct.toD]
  rw [wS_seq]
  simp only [wO_some, wO_none, wO_ite, wM_ok, wM_bad, wM_pure, wM_bind, wM_map, wM_iteB, wM_iteM, wM_nameB, wM_nameS, wM_nameV, wM_nameM, wM_asSh, wM_cons, wM_consO, wM_consT, wM_consB, wM_tup, wM_lst, wM_opS, wM_opN, wM_bl, wM_andT, wM_orT, wM_if, wM_andV, wM_orV, wM_tru, wM_neg, wM_part, wM_slice, wM_call, wM_isi, wM_op1, wM_bO, wM_chain, wM_sub, wM_subN, wM_has, wM_callF, wM_make, wM_newK, wM_newT, wM_get1, wM_get2, wM_field, wM_seq, wM_rngA1, wM_rngA2, wM_enumL, wM_enumT, wM_zipL, wM_zipT, wS_next, wS_brk, wS_cont, wS_bad, wS_if, wS_ret, wS_retN, wS_expr, wS_asg, wS_tg, wS_par, wS_app, wS_put, wS_fldX, wO_bName0, wO_bNameS, wO_bTup, wO_bNil, wO_bCons, wO_fillN, wO_fillS, wO_fillP, putBack_some, putBack_none, putBack_nil, slotSh_s, slotSh_sh, slotSh_ct, slotSh_rc, wipe_nil, wipe_cons, back_nil, back_cons, rest_s, rest_n, rest_sh, rest_ct, rest_rc, add_ii, sub_ii, cmp_ii, eq_ii, ne_ii, is_nn, is_tn, is_ln, is_in, is_bn, is_bb, isn_nn, isn_tn, isn_ln, isn_in, len_l, len_t, int_i, int_b, abs_i, tup_l, tup_t, list_l, list_t, f1_ap, f2_ap, tru_b, tru_t, tru_l, tru_n, item_lstS, item_lstO, item_tupS, wO_map, wO_bind, isi_int_i, isi_int_b, isi_int_n, isi_int_t, isi_int_l, isi_int_s, isi_bool_i, isi_bool_b, isi_bool_n, isi_tl_t, isi_tl_l, isi_tl_i, isi_tl_n, isi_t_t, isi_t_l, isi_l_t, isi_l_l, slice_l, slice_t, shO_sh, blO_bl, blD_bl, intO_i, seq_l, seq_t, seq_f, ownL_l, two_ap, isSh_s, made_ok, toD_sh, toD_lst, mod_ii, mul_ii, div_ii, add_ll, add_tt, List.getElem?_cons_zero, List.getElem?_cons_succ, List.set_cons_zero, List.set_cons_succ, Option.join_some, Option.join_none, List.map_cons, List.map_nil, if_true, if_false, Bool.false_eq_true, reduceIte, Bool.true_or, Bool.or_true, Bool.false_or, Bool.true_and, Bool.and_true, Bool.false_and, Bool.and_false, true_and, and_true, Bool.not_true, Bool.not_false, decide_eq_true_eq, len0, len1, len2, len3, len4, len5, len6, abs2, pos2, wM_disp, wM_consP, isDk_dk, isDk_dt, toD_ct, Ct.toD]
  refine ⟨by decide, ?_⟩
  refine pickB_w (xs := resetss) hp1 (.own _) (by simp [resetss]) (by decide) (by omega) fun resets p2 hr hp2 => ?_
  simp only [hp1.sl, wO_some, wO_none, wO_ite, wM_ok, wM_bad, wM_pure, wM_bind, wM_map, wM_iteB, wM_iteM, wM_nameB, wM_nameS, wM_nameV, wM_nameM, wM_asSh, wM_cons, wM_consO, wM_consT, wM_consB, wM_tup, wM_lst, wM_opS, wM_opN, wM_bl, wM_andT, wM_orT, wM_if, wM_andV, wM_orV, wM_tru, wM_neg, wM_part, wM_slice, wM_call, wM_isi, wM_op1, wM_bO, wM_chain, wM_sub, wM_subN, wM_has, wM_callF, wM_make, wM_newK, wM_newT, wM_get1, wM_get2, wM_field, wM_seq, wM_rngA1, wM_rngA2, wM_enumL, wM_enumT, wM_zipL, wM_zipT, wS_next, wS_brk, wS_cont, wS_bad, wS_if, wS_ret, wS_retN, wS_expr, wS_asg, wS_tg, wS_par, wS_app, wS_put, wS_fldX, wO_bName0, wO_bNameS, wO_bTup, wO_bNil, wO_bCons, wO_fillN, wO_fillS, wO_fillP, putBack_some, putBack_none, putBack_nil, slotSh_s, slotSh_sh, slotSh_ct, slotSh_rc, wipe_nil, wipe_cons, back_nil, back_cons, rest_s, rest_n, rest_sh, rest_ct, rest_rc, add_ii, sub_ii, cmp_ii, eq_ii, ne_ii, is_nn, is_tn, is_ln, is_in, is_bn, is_bb, isn_nn, isn_tn, isn_ln, isn_in, len_l, len_t, int_i, int_b, abs_i, tup_l, tup_t, list_l, list_t, f1_ap, f2_ap, tru_b, tru_t, tru_l, tru_n, item_lstS, item_lstO, item_tupS, wO_map, wO_bind, isi_int_i, isi_int_b, isi_int_n, isi_int_t, isi_int_l, isi_int_s, isi_bool_i, isi_bool_b, isi_bool_n, isi_tl_t, isi_tl_l, isi_tl_i, isi_tl_n, isi_t_t, isi_t_l, isi_l_t, isi_l_l, slice_l, slice_t, shO_sh, blO_bl, blD_bl, intO_i, seq_l, seq_t, seq_f, ownL_l, two_ap, isSh_s, made_ok, toD_sh, toD_lst, mod_ii, mul_ii, div_ii, add_ll, add_tt, List.getElem?_cons_zero, List.getElem?_cons_succ, List.set_cons_zero, List.set_cons_succ, Option.join_some, Option.join_none, List.map_cons, List.map_nil, if_true, if_false, Bool.false_eq_true, reduceIte, Bool.true_or, Bool.or_true, Bool.false_or, Bool.true_and, Bool.and_true, Bool.false_and, Bool.and_false, true_and, and_true, Bool.not_true, Bool.not_false, decide_eq_true_eq, len0, len1, len2, len3, len4, len5, len6, abs2, pos2, wM_disp, wM_consP, isDk_dk, isDk_dt, toD_ct, Ct.toD]
  rw [wS_seq]
  simp only [wO_some, wO_none, wO_ite, wM_ok, wM_bad, wM_pure, wM_bind, wM_map, wM_iteB, wM_iteM, wM_nameB, wM_nameS, wM_nameV, wM_nameM, wM_asSh, wM_cons, wM_consO, wM_consT, wM_consB, wM_tup, wM_lst, wM_opS, wM_opN, wM_bl, wM_andT, wM_orT, wM_if, wM_andV, wM_orV, wM_tru, wM_neg, wM_part, wM_slice, wM_call, wM_isi, wM_op1, wM_bO, wM_chain, wM_sub, wM_subN, wM_has, wM_callF, wM_make, wM_newK, wM_newT, wM_get1, wM_get2, wM_field, wM_seq, wM_rngA1, wM_rngA2, wM_enumL, wM_enumT, wM_zipL, wM_zipT, wS_next, wS_brk, wS_cont, wS_bad, wS_if, wS_ret, wS_retN, wS_expr, wS_asg, wS_tg, wS_par, wS_app, wS_put, wS_fldX, wO_bName0, wO_bNameS, wO_bTup, wO_bNil, wO_bCons, wO_fillN, wO_fillS, wO_fillP, putBack_some, putBack_none, putBack_nil, slotSh_s, slotSh_sh, slotSh_ct, slotSh_rc, wipe_nil, wipe_cons, back_nil, back_cons, rest_s, rest_n, rest_sh, rest_ct, rest_rc, add_ii, sub_ii, cmp_ii, eq_ii, ne_ii, is_nn, is_tn, is_ln, is_in, is_bn, is_bb, isn_nn, isn_tn, isn_ln, isn_in, len_l, len_t, int_i, int_b, abs_i, tup_l, tup_t, list_l, list_t, f1_ap, f2_ap, tru_b, tru_t, tru_l, tru_n, item_lstS, item_lstO, item_tupS, wO_map, wO_bind, isi_int_i, isi_int_b, isi_int_n, isi_int_t, isi_int_l, isi_int_s, isi_bool_i, isi_bool_b, isi_bool_n, isi_tl_t, isi_tl_l, isi_tl_i, isi_tl_n, isi_t_t, isi_t_l, isi_l_t, isi_l_l, slice_l, slice_t, shO_sh, blO_bl, blD_bl, intO_i, seq_l, seq_t, seq_f, ownL_l, two_ap, isSh_s, made_ok, toD_sh, toD_lst, mod_ii, mul_ii, div_ii, add_ll, add_tt, List.getElem?_cons_zero, List.getElem?_cons_succ, List.set_cons_zero, List.set_cons_succ, Option.join_some, Option.join_none, List.map_cons, List.map_nil, if_true, if_false, Bool.false_eq_true, reduceIte, Bool.true_or, Bool.or_true, Bool.false_or, Bool.true_and, Bool.and_true, Bool.false_and, Bool.and_false, true_and, and_true, Bool.not_true, Bool.not_false, decide_eq_true_eq, len0, len1, len2, len3, len4, len5, len6, abs2, pos2, wM_disp, wM_consP, isDk_dk, isDk_dt, toD_ct, Ct.toD]
  refine ⟨by decide, ?_⟩
  refine pickB_w (xs := nextss) hp2 (.own _) (by simp [nextss]) (by decide) (by omega) fun nexts p3 hn hp3 => ?_
  simp only [hp2.sl, wO_some, wO_none, wO_ite, wM_ok, wM_bad, wM_pure, wM_bind, wM_map, wM_iteB, wM_iteM, wM_nameB, wM_nameS, wM_nameV, wM_nameM, wM_asSh, wM_cons, wM_consO, wM_consT, wM_consB, wM_tup, wM_lst, wM_opS, wM_opN, wM_bl, wM_andT, wM_orT, wM_if, wM_andV, wM_orV, wM_tru, wM_neg, wM_part, wM_slice, wM_call, wM_isi, wM_op1, wM_bO, wM_chain, wM_sub, wM_subN, wM_has, wM_callF, wM_make, wM_newK, wM_newT, wM_get1, wM_get2, wM_field, wM_seq, wM_rngA1, wM_rngA2, wM_enumL, wM_enumT, wM_zipL, wM_zipT, wS_next, wS_brk, wS_cont, wS_bad, wS_if, wS_ret, wS_retN, wS_expr, wS_asg, wS_tg, wS_par, wS_app, wS_put, wS_fldX, wO_bName0, wO_bNameS, wO_bTup, wO_bNil, wO_bCons, wO_fillN, wO_fillS, wO_fillP, putBack_some, putBack_none, putBack_nil, slotSh_s, slotSh_sh, slotSh_ct, slotSh_rc, wipe_nil, wipe_cons, back_nil, back_cons, rest_s, rest_n, rest_sh, rest_ct, rest_rc, add_ii, sub_ii, cmp_ii, eq_ii, ne_ii, is_nn, is_tn, is_ln, is_in, is_bn, is_bb, isn_nn, isn_tn, isn_ln, isn_in, len_l, len_t, int_i, int_b, abs_i, tup_l, tup_t, list_l, list_t, f1_ap, f2_ap, tru_b, tru_t, tru_l, tru_n, item_lstS, item_lstO, item_tupS, wO_map, wO_bind, isi_int_i, isi_int_b, isi_int_n, isi_int_t, isi_int_l, isi_int_s, isi_bool_i, isi_bool_b, isi_bool_n, isi_tl_t, isi_tl_l, isi_tl_i, isi_tl_n, isi_t_t, isi_t_l, isi_l_t, isi_l_l, slice_l, slice_t, shO_sh, blO_bl, blD_bl, intO_i, seq_l, seq_t, seq_f, ownL_l, two_ap, isSh_s, made_ok, toD_sh, toD_lst, mod_ii, mul_ii, div_ii, add_ll, add_tt, List.getElem?_cons_zero, List.getElem?_cons_succ, List.set_cons_zero, List.set_cons_succ, Option.join_some, Option.join_none, List.map_cons, List.map_nil, if_true, if_false, Bool.false_eq_true, reduceIte, Bool.true_or, Bool.or_true, Bool.false_or, Bool.true_and, Bool.and_true, Bool.false_and, Bool.and_false, true_and, and_true, Bool.not_true, Bool.not_false, decide_eq_true_eq, len0, len1, len2, len3, len4, len5, len6, abs2, pos2, wM_disp, wM_consP, isDk_dk, isDk_dt, toD_ct, Ct.toD]
  rw [wS_seq]
  simp only [wO_some, wO_none, wO_ite, wM_ok, wM_bad, wM_pure, wM_bind, wM_map, wM_iteB, wM_iteM, wM_nameB, wM_nameS, wM_nameV, wM_nameM, wM_asSh, wM_cons, wM_consO, wM_consT, wM_consB, wM_tup, wM_lst, wM_opS, wM_opN, wM_bl, wM_andT, wM_orT, wM_if, wM_andV, wM_orV, wM_tru, wM_neg, wM_part, wM_slice, wM_call, wM_isi, wM_op1, wM_bO, wM_chain, wM_sub, wM_subN, wM_has, wM_callF, wM_make, wM_newK, wM_newT, wM_get1, wM_get2, wM_field, wM_seq, wM_rngA1, wM_rngA2, wM_enumL, wM_enumT, wM_zipL, wM_zipT, wS_next, wS_brk, wS_cont, wS_bad, wS_if, wS_ret, wS_retN, wS_expr, wS_asg, wS_tg, wS_par, wS_app, wS_put, wS_fldX, wO_bName0, wO_bNameS, wO_bTup, wO_bNil, wO_bCons, wO_fillN, wO_fillS, wO_fillP, putBack_some, putBack_none, putBack_nil, slotSh_s, slotSh_sh, slotSh_ct, slotSh_rc, wipe_nil, wipe_cons, back_nil, back_cons, rest_s, rest_n, rest_sh, rest_ct, rest_rc, add_ii, sub_ii, cmp_ii, eq_ii, ne_ii, is_nn, is_tn, is_ln, is_in, is_bn, is_bb, isn_nn, isn_tn, isn_ln, isn_in, len_l, len_t, int_i, int_b, abs_i, tup_l, tup_t, list_l, list_t, f1_ap, f2_ap, tru_b, tru_t, tru_l, tru_n, item_lstS, item_lstO, item_tupS, wO_map, wO_bind, isi_int_i, isi_int_b, isi_int_n, isi_int_t, isi_int_l, isi_int_s, isi_bool_i, isi_bool_b, isi_bool_n, isi_tl_t, isi_tl_l, isi_tl_i, isi_tl_n, isi_t_t, isi_t_l, isi_l_t, isi_l_l, slice_l, slice_t, shO_sh, blO_bl, blD_bl, intO_i, seq_l, seq_t, seq_f, ownL_l, two_ap, isSh_s, made_ok, toD_sh, toD_lst, mod_ii, mul_ii, div_ii, add_ll, add_tt, List.getElem?_cons_zero, List.getElem?_cons_succ, List.set_cons_zero, List.set_cons_succ, Option.join_some, Option.join_none, List.map_cons, List.map_nil, if_true, if_false, Bool.false_eq_true, reduceIte, Bool.true_or, Bool.or_true, Bool.false_or, Bool.true_and, Bool.and_true, Bool.false_and, Bool.and_false, true_and, and_true, Bool.not_true, Bool.not_false, decide_eq_true_eq, len0, len1, len2, len3, len4, len5, len6, abs2, pos2, wM_disp, wM_consP, isDk_dk, isDk_dt, toD_ct, Ct.toD]
  refine pickB_w (xs := wishs) hp3 (.own _) (by simp [wishs]) (by decide) (by omega) fun wish p4 hw hp4 => ?_
  simp only [hp3.sl, wO_some, wO_none, wO_ite, wM_ok, wM_bad, wM_pure, wM_bind, wM_map, wM_iteB, wM_iteM, wM_nameB, wM_nameS, wM_nameV, wM_nameM, wM_asSh, wM_cons, wM_consO, wM_consT, wM_consB, wM_tup, wM_lst, wM_opS, wM_opN, wM_bl, wM_andT, wM_orT, wM_if, wM_andV, wM_orV, wM_tru, wM_neg, wM_part, wM_slice, wM_call, wM_isi, wM_op1, wM_bO, wM_chain, wM_sub, wM_subN, wM_has, wM_callF, wM_make, wM_newK, wM_newT, wM_get1, wM_get2, wM_field, wM_seq, wM_rngA1, wM_rngA2, wM_enumL, wM_enumT, wM_zipL, wM_zipT, wS_next, wS_brk, wS_cont, wS_bad, wS_if, wS_ret, wS_retN, wS_expr, wS_asg, wS_tg, wS_par, wS_app, wS_put, wS_fldX, wO_bName0, wO_bNameS, wO_bTup, wO_bNil, wO_bCons, wO_fillN, wO_fillS, wO_fillP, putBack_some, putBack_none, putBack_nil, slotSh_s, slotSh_sh, slotSh_ct, slotSh_rc, wipe_nil, wipe_cons, back_nil, back_cons, rest_s, rest_n, rest_sh, rest_ct, rest_rc, add_ii, sub_ii, cmp_ii, eq_ii, ne_ii, is_nn, is_tn, is_ln, is_in, is_bn, is_bb, isn_nn, isn_tn, isn_ln, isn_in, len_l, len_t, int_i, int_b, abs_i, tup_l, tup_t, list_l, list_t, f1_ap, f2_ap, tru_b, tru_t, tru_l, tru_n, item_lstS, item_lstO, item_tupS, wO_map, wO_bind, isi_int_i, isi_int_b, isi_int_n, isi_int_t, isi_int_l, isi_int_s, isi_bool_i, isi_bool_b, isi_bool_n, isi_tl_t, isi_tl_l, isi_tl_i, isi_tl_n, isi_t_t, isi_t_l, isi_l_t, isi_l_l, slice_l, slice_t, shO_sh, blO_bl, blD_bl, intO_i, seq_l, seq_t, seq_f, ownL_l, two_ap, isSh_s, made_ok, toD_sh, toD_lst, mod_ii, mul_ii, div_ii, add_ll, add_tt, List.getElem?_cons_zero, List.getElem?_cons_succ, List.set_cons_zero, List.set_cons_succ, Option.join_some, Option.join_none, List.map_cons, List.map_nil, if_true, if_false, Bool.false_eq_true, reduceIte, Bool.true_or, Bool.or_true, Bool.false_or, Bool.true_and, Bool.and_true, Bool.false_and, Bool.and_false, true_and, and_true, Bool.not_true, Bool.not_false, decide_eq_true_eq, len0, len1, len2, len3, len4, len5, len6, abs2, pos2, wM_disp, wM_consP, isDk_dk, isDk_dt, toD_ct, Ct.toD]
  refine (p1_w ho (p2_w hr (p3_w hn (p4_w hw ⟨?_⟩)))).h
  unfold d_p5
  rw [wS_seq]
  simp only [wO_some, wO_none, wO_ite, wM_ok, wM_bad, wM_pure, wM_bind, wM_map, wM_iteB, wM_iteM, wM_nameB, wM_nameS, wM_nameV, wM_nameM, wM_asSh, wM_cons, wM_consO, wM_consT, wM_consB, wM_tup, wM_lst, wM_opS, wM_opN, wM_bl, wM_andT, wM_orT, wM_if, wM_andV, wM_orV, wM_tru, wM_neg, wM_part, wM_slice, wM_call, wM_isi, wM_op1, wM_bO, wM_chain, wM_sub, wM_subN, wM_has, wM_callF, wM_make, wM_newK, wM_newT, wM_get1, wM_get2, wM_field, wM_seq, wM_rngA1, wM_rngA2, wM_enumL, wM_enumT, wM_zipL, wM_zipT, wS_next, wS_brk, wS_cont, wS_bad, wS_if, wS_ret, wS_retN, wS_expr, wS_asg, wS_tg, wS_par, wS_app, wS_put, wS_fldX, wO_bName0, wO_bNameS, wO_bTup, wO_bNil, wO_bCons, wO_fillN, wO_fillS, wO_fillP, putBack_some, putBack_none, putBack_nil, slotSh_s, slotSh_sh, slotSh_ct, slotSh_rc, wipe_nil, wipe_cons, back_nil, back_cons, rest_s, rest_n, rest_sh, rest_ct, rest_rc, add_ii, sub_ii, cmp_ii, eq_ii, ne_ii, is_nn, is_tn, is_ln, is_in, is_bn, is_bb, isn_nn, isn_tn, isn_ln, isn_in, len_l, len_t, int_i, int_b, abs_i, tup_l, tup_t, list_l, list_t, f1_ap, f2_ap, tru_b, tru_t, tru_l, tru_n, item_lstS, item_lstO, item_tupS, wO_map, wO_bind, isi_int_i, isi_int_b, isi_int_n, isi_int_t, isi_int_l, isi_int_s, isi_bool_i, isi_bool_b, isi_bool_n, isi_tl_t, isi_tl_l, isi_tl_i, isi_tl_n, isi_t_t, isi_t_l, isi_l_t, isi_l_l, slice_l, slice_t, shO_sh, blO_bl, blD_bl, intO_i, seq_l, seq_t, seq_f, ownL_l, two_ap, isSh_s, made_ok, toD_sh, toD_lst, mod_ii, mul_ii, div_ii, add_ll, add_tt, List.getElem?_cons_zero, List.getElem?_cons_succ, List.set_cons_zero, List.set_cons_succ, Option.join_some, Option.join_none, List.map_cons, List.map_nil, if_true, if_false, Bool.false_eq_true, reduceIte, Bool.true_or, Bool.or_true, Bool.false_or, Bool.true_and, Bool.and_true, Bool.false_and, Bool.and_false, true_and, and_true, Bool.not_true, Bool.not_false, decide_eq_true_eq, len0, len1, len2, len3, len4, len5, len6, abs2, pos2, wM_disp, wM_consP, isDk_dk, isDk_dt, toD_ct, Ct.toD]
  refine drawB_w (many := 2) hp4 (by decide) (by decide) (by decide) fun r1 p5 hr1 hp5 => ?_
  simp only [hp4.sl, wO_some, wO_none, wO_ite, wM_ok, wM_bad, wM_pure, wM_bind, wM_map, wM_iteB, wM_iteM, wM_nameB, wM_nameS, wM_nameV, wM_nameM, wM_asSh, wM_cons, wM_consO, wM_consT, wM_consB, wM_tup, wM_lst, wM_opS, wM_opN, wM_bl, wM_andT, wM_orT, wM_if, wM_andV, wM_orV, wM_tru, wM_neg, wM_part, wM_slice, wM_call, wM_isi, wM_op1, wM_bO, wM_chain, wM_sub, wM_subN, wM_has, wM_callF, wM_make, wM_newK, wM_newT, wM_get1, wM_get2, wM_field, wM_seq, wM_rngA1, wM_rngA2, wM_enumL, wM_enumT, wM_zipL, wM_zipT, wS_next, wS_brk, wS_cont, wS_bad, wS_if, wS_ret, wS_retN, wS_expr, wS_asg, wS_tg, wS_par, wS_app, wS_put, wS_fldX, wO_bName0, wO_bNameS, wO_bTup, wO_bNil, wO_bCons, wO_fillN, wO_fillS, wO_fillP, putBack_some, putBack_none, putBack_nil, slotSh_s, slotSh_sh, slotSh_ct, slotSh_rc, wipe_nil, wipe_cons, back_nil, back_cons, rest_s, rest_n, rest_sh, rest_ct, rest_rc, add_ii, sub_ii, cmp_ii, eq_ii, ne_ii, is_nn, is_tn, is_ln, is_in, is_bn, is_bb, isn_nn, isn_tn, isn_ln, isn_in, len_l, len_t, int_i, int_b, abs_i, tup_l, tup_t, list_l, list_t, f1_ap, f2_ap, tru_b, tru_t, tru_l, tru_n, item_lstS, item_lstO, item_tupS, wO_map, wO_bind, isi_int_i, isi_int_b, isi_int_n, isi_int_t, isi_int_l, isi_int_s, isi_bool_i, isi_bool_b, isi_bool_n, isi_tl_t, isi_tl_l, isi_tl_i, isi_tl_n, isi_t_t, isi_t_l, isi_l_t, isi_l_l, slice_l, slice_t, shO_sh, blO_bl, blD_bl, intO_i, seq_l, seq_t, seq_f, ownL_l, two_ap, isSh_s, made_ok, toD_sh, toD_lst, mod_ii, mul_ii, div_ii, add_ll, add_tt, List.getElem?_cons_zero, List.getElem?_cons_succ, List.set_cons_zero, List.set_cons_succ, Option.join_some, Option.join_none, List.map_cons, List.map_nil, if_true, if_false, Bool.false_eq_true, reduceIte, Bool.true_or, Bool.or_true, Bool.false_or, Bool.true_and, Bool.and_true, Bool.false_and, Bool.and_false, true_and, and_true, Bool.not_true, Bool.not_false, decide_eq_true_eq, len0, len1, len2, len3, len4, len5, len6, abs2, pos2, wM_disp, wM_consP, isDk_dk, isDk_dt, toD_ct, Ct.toD]
  refine drawB_w (many := 12) hp5 (by decide) (by decide) (by decide) fun r2 p6 hr2 hp6 => ?_
  simp only [hp5.sl, wO_some, wO_none, wO_ite, wM_ok, wM_bad, wM_pure, wM_bind, wM_map, wM_iteB, wM_iteM, wM_nameB, wM_nameS, wM_nameV, wM_nameM, wM_asSh, wM_cons, wM_consO, wM_consT, wM_consB, wM_tup, wM_lst, wM_opS, wM_opN, wM_bl, wM_andT, wM_orT, wM_if, wM_andV, wM_orV, wM_tru, wM_neg, wM_part, wM_slice, wM_call, wM_isi, wM_op1, wM_bO, wM_chain, wM_sub, wM_subN, wM_has, wM_callF, wM_make, wM_newK, wM_newT, wM_get1, wM_get2, wM_field, wM_seq, wM_rngA1, wM_rngA2, wM_enumL, wM_enumT, wM_zipL, wM_zipT, wS_next, wS_brk, wS_cont, wS_bad, wS_if, wS_ret, wS_retN, wS_expr, wS_asg, wS_tg, wS_par, wS_app, wS_put, wS_fldX, wO_bName0, wO_bNameS, wO_bTup, wO_bNil, wO_bCons, wO_fillN, wO_fillS, wO_fillP, putBack_some, putBack_none, putBack_nil, slotSh_s, slotSh_sh, slotSh_ct, slotSh_rc, wipe_nil, wipe_cons, back_nil, back_cons, rest_s, rest_n, rest_sh, rest_ct, rest_rc, add_ii, sub_ii, cmp_ii, eq_ii, ne_ii, is_nn, is_tn, is_ln, is_in, is_bn, is_bb, isn_nn, isn_tn, isn_ln, isn_in, len_l, len_t, int_i, int_b, abs_i, tup_l, tup_t, list_l, list_t, f1_ap, f2_ap, tru_b, tru_t, tru_l, tru_n, item_lstS, item_lstO, item_tupS, wO_map, wO_bind, isi_int_i, isi_int_b, isi_int_n, isi_int_t, isi_int_l, isi_int_s, isi_bool_i, isi_bool_b, isi_bool_n, isi_tl_t, isi_tl_l, isi_tl_i, isi_tl_n, isi_t_t, isi_t_l, isi_l_t, isi_l_l, slice_l, slice_t, shO_sh, blO_bl, blD_bl, intO_i, seq_l, seq_t, seq_f, ownL_l, two_ap, isSh_s, made_ok, toD_sh, toD_lst, mod_ii, mul_ii, div_ii, add_ll, add_tt, List.getElem?_cons_zero, List.getElem?_cons_succ, List.set_cons_zero, List.set_cons_succ, Option.join_some, Option.join_none, List.map_cons, List.map_nil, if_true, if_false, Bool.false_eq_true, reduceIte, Bool.true_or, Bool.or_true, Bool.false_or, Bool.true_and, Bool.and_true, Bool.false_and, Bool.and_false, true_and, and_true, Bool.not_true, Bool.not_false, decide_eq_true_eq, len0, len1, len2, len3, len4, len5, len6, abs2, pos2, wM_disp, wM_consP, isDk_dk, isDk_dt, toD_ct, Ct.toD]
  exact (p6_w hr1 hr2 fun ρ => rfl).h
theorem truth : ∀ ns : List Int, ns.length ≤ 63 → ∃ fs, sem_law [.sh (.fz (ns.map D.int))] = .ok (.sh (.bl true)) fs := fun ns hl => by
  obtain ⟨r, fs, e, rfl⟩ := wM_get (law_ok hl)
  exact ⟨fs, e⟩
end W23

end

section
set_option Elab.async false
set_option linter.all false
set_option maxRecDepth 100000
namespace W23
open PySem L2 RZ DL PyProof.Rows
theorem walk {l : PySem.W.OpenLaw} {q : Program} {loose : List Str} {XP : (Str → Option Value) → Heap → Prop} {YP : World → Heap → Prop} {d : DefRec} {K : Params → PySem.W.Frag} (hn : l.most = some 63) (hdf : d.params.defaults = [])
    (hrec : ∀ f ∈ (["law"] : List Str), ((recsOf q).any fun e => e.name == f) = true)
    (hY : ∀ (w : World) (h : Heap), YP w h → (K w.params).In h)
    (F : ∀ (w : World) (mg : Str → Option Value) (fa : Addr) (h : Heap), YP w h → (K w.params).In h → h.Ns mainGlobals mg → mg d.name = some (.ref fa) → TabsE (K w.params) mg h ["law"] →
      LawGT l w (K w.params) CX0 9 63 "_law_script" mg fa h) :
    PySem.W.WalkO q loose XP YP l.row.toRowW d [] (fun f vs => PySem.call f vs) :=
  walk_ofGT (n := 63) (k := 9) (x := "_law_script") (CX := fun _ => CX0) (fs := ["law"]) hn (by decide) hdf ⟨⟨rfl, by decide, by decide⟩, rfl⟩ hrec hY F fun _ _ _ _ _ z => z
end W23
open PySem PySem.W PyProof.Rows
set_option maxRecDepth 100000 in
set_option maxHeartbeats 0 in
theorem PySem.Challenge.cw_everycycle_k23_machines_refused_holds : PySem.Challenge.rw_everycycle_k23_machines_refused.Holds := by
  w_on; o_law; k_head; (case hw => w_witness2)
  k_fill
  refine W23.walk (l := PySem.Challenge.rw_everycycle_k23_machines_refused) rfl rfl (fun f hf => by cases List.mem_singleton.mp hf; rfl) (fun w h Y => PySem.W.km_in_of Y) ?F
  case F =>
    intro w mg fa h Y KX G hmg TB
    refine' W23.all_mk KX G hmg TB W23.truth ?aC0 ?pg0 ?hd0 ?po0 ?sa0 ?na0_0 ?na0_1 ?mk0 ?kc0 ?ia0 ?ib0 ?id0 ?ie0 ?aC1 ?pg1 ?hd1 ?po1 ?sa1 ?na1_0 ?na1_1 ?na1_2 ?na1_3 ?na1_4 ?mk1 ?kc1 ?ia1 ?ib1 ?id1 ?ie1 ?aC2 ?pg2 ?hd2 ?po2 ?sa2 ?na2_0 ?na2_1 ?na2_2 ?mk2 ?kc2 ?a0 ?l0 ?c0 ?k0 ?a1 ?l1 ?c1 ?k1 ?a2 ?l2 ?c2 ?k2 ?a3 ?l3 ?c3 ?k3 ?a4 ?i4 ?l4 ?c4 ?k4 ?a5 ?l5 ?c5 ?k5 ?a6 ?l6 ?c6 ?k6 ?a7 ?l7 ?c7 ?k7 ?a8 ?l8 ?c8 ?k8 ?a9 ?i9 ?l9 ?c9 ?k9 ?a10 ?i10 ?l10 ?c10 ?k10 ?a11 ?i11 ?l11 ?c11 ?k11 ?a12 ?i12 ?l12 ?c12 ?k12 ?a13 ?l13 ?c13 ?k13 ?a14 ?i14 ?l14 ?c14 ?k14 ?a15 ?l15 ?c15 ?k15 ?E_BadNumberg ?E_BadNumbercl ?E_BadNumberbv ?E_BadNumbersa ?E_BadNumberga ?E_BadNumbergg ?E_BadNumbern0 ?E_BadNumbern1 ?E_BadNumberi ?E_BadNumbert ?E_BadNumberk ?E_BadNumberex ?E_BadNumberty ?E_BadNumberhd ?E_BadNumbersu ?E_BadNumberve ?E_BadNumberow ?E_BadNumberl ?E_BadNumberco ?E_BadNumberce ?E_BadNumbercv ?E_BadNumberv2 ?E_BadNumberfi ?E_BadRowg ?E_BadRowcl ?E_BadRowbv ?E_BadRowsa ?E_BadRowga ?E_BadRowgg ?E_BadRown0 ?E_BadRowi ?E_BadRowt ?E_BadRowk ?E_BadRowex ?E_BadRowty ?E_BadRowhd ?E_BadRowsu ?E_BadRowve ?E_BadRowow ?E_BadRowl ?E_BadRowco ?E_BadRowce ?E_BadRowcv ?E_BadRowv2 ?E_BadRowfi ?Etp ?Esu ?Eto ?W_law_whya ?W_law_whyl ?W_law_whyc ?W_law_whyk ?W_law_whyBadNumberBadNumber ?W_law_whyBadNumberBadRow ?W_law_whyBadRowBadNumber ?W_law_whyBadRowBadRow ?cLl ?cLp ?cLh ?cLn ?cLt ?nf_Machine_Graphh ?kn_Machine_Graphh1 ?kn_Machine_Graphh2 ?kn_Machine_Graphh3 ?kn_Machine_Graphh4 ?y0 ?y1 ?y2 ?y3 ?y4 ?y5 ?y6 ?y7 ?y8 ?y9 ?y10 ?y11 ?y12 ?y13 ?y14 ?y15 ?y16 ?y17 ?y18 ?y19 ?y20 ?y21 ?z0 ?z1 ?z2 ?z3 ?z4 ?z5 ?z6 ?z7 ?z8
    (case aC0 => k_is)
    (case pg0 => k_is)
    (case hd0 => k_is)
    (case po0 => k_is)
    (case sa0 => k_is)
    (case na0_0 => k_is)
    (case na0_1 => k_is)
    (case mk0 => k_is)
    (case kc0 => k_is)
    (case ia0 => k_is)
    (case ib0 => k_is)
    (case id0 => k_is)
    (case ie0 => k_is)
    (case aC1 => k_is)
    (case pg1 => k_is)
    (case hd1 => k_is)
    (case po1 => k_is)
    (case sa1 => k_is)
    (case na1_0 => k_is)
    (case na1_1 => k_is)
    (case na1_2 => k_is)
    (case na1_3 => k_is)
    (case na1_4 => k_is)
    (case mk1 => k_is)
    (case kc1 => k_is)
    (case ia1 => k_is)
    (case ib1 => k_is)
    (case id1 => k_is)
    (case ie1 => k_is)
    (case aC2 => k_is)
    (case pg2 => k_is)
    (case hd2 => k_is)
    (case po2 => k_is)
    (case sa2 => k_is)
    (case na2_0 => k_is)
    (case na2_1 => k_is)
    (case na2_2 => k_is)
    (case mk2 => k_is)
    (case kc2 => k_is)
    (case a0 => k_is)
    (case l0 => k_is)
    (case c0 => k_is)
    (case k0 => k_is)
    (case a1 => k_is)
    (case l1 => k_is)
    (case c1 => k_is)
    (case k1 => k_is)
    (case a2 => k_is)
    (case l2 => k_is)
    (case c2 => k_is)
    (case k2 => k_is)
    (case a3 => k_is)
    (case l3 => k_is)
    (case c3 => k_is)
    (case k3 => k_is)
    (case a4 => k_is)
    (case i4 => k_is)
    (case l4 => k_is)
    (case c4 => k_is)
    (case k4 => k_is)
    (case a5 => k_is)
    (case l5 => k_is)
    (case c5 => k_is)
    (case k5 => k_is)
    (case a6 => k_is)
    (case l6 => k_is)
    (case c6 => k_is)
    (case k6 => k_is)
    (case a7 => k_is)
    (case l7 => k_is)
    (case c7 => k_is)
    (case k7 => k_is)
    (case a8 => k_is)
    (case l8 => k_is)
    (case c8 => k_is)
    (case k8 => k_is)
    (case a9 => k_is)
    (case i9 => k_is)
    (case l9 => k_is)
    (case c9 => k_is)
    (case k9 => k_is)
    (case a10 => k_is)
    (case i10 => k_is)
    (case l10 => k_is)
    (case c10 => k_is)
    (case k10 => k_is)
    (case a11 => k_is)
    (case i11 => k_is)
    (case l11 => k_is)
    (case c11 => k_is)
    (case k11 => k_is)
    (case a12 => k_is)
    (case i12 => k_is)
    (case l12 => k_is)
    (case c12 => k_is)
    (case k12 => k_is)
    (case a13 => k_is)
    (case l13 => k_is)
    (case c13 => k_is)
    (case k13 => k_is)
    (case a14 => k_is)
    (case i14 => k_is)
    (case l14 => k_is)
    (case c14 => k_is)
    (case k14 => k_is)
    (case a15 => k_is)
    (case l15 => k_is)
    (case c15 => k_is)
    (case k15 => k_is)
    (case E_BadNumberg => k_is)
    (case E_BadNumbercl => k_is)
    (case E_BadNumberbv => rfl)
    (case E_BadNumbersa => k_is)
    (case E_BadNumberga => k_is)
    (case E_BadNumbergg => k_is)
    (case E_BadNumbern0 => k_is)
    (case E_BadNumbern1 => k_is)
    (case E_BadNumberi => k_is)
    (case E_BadNumbert => k_is)
    (case E_BadNumberk => k_is)
    (case E_BadNumberex => k_is)
    (case E_BadNumberty => k_is)
    (case E_BadNumberhd => k_is)
    (case E_BadNumbersu => ks_is)
    (case E_BadNumberve => k_is)
    (case E_BadNumberow => k_is)
    (case E_BadNumberl => k_is)
    (case E_BadNumberco => k_is)
    (case E_BadNumberce => k_is)
    (case E_BadNumbercv => k_is)
    (case E_BadNumberv2 => rfl)
    (case E_BadNumberfi => rfl)
    (case E_BadRowg => k_is)
    (case E_BadRowcl => k_is)
    (case E_BadRowbv => rfl)
    (case E_BadRowsa => k_is)
    (case E_BadRowga => k_is)
    (case E_BadRowgg => k_is)
    (case E_BadRown0 => k_is)
    (case E_BadRowi => k_is)
    (case E_BadRowt => k_is)
    (case E_BadRowk => k_is)
    (case E_BadRowex => k_is)
    (case E_BadRowty => k_is)
    (case E_BadRowhd => k_is)
    (case E_BadRowsu => ks_is)
    (case E_BadRowve => k_is)
    (case E_BadRowow => k_is)
    (case E_BadRowl => k_is)
    (case E_BadRowco => k_is)
    (case E_BadRowce => k_is)
    (case E_BadRowcv => k_is)
    (case E_BadRowv2 => rfl)
    (case E_BadRowfi => rfl)
    (case Etp => k_is)
    (case Esu => k_is)
    (case Eto => rfl)
    (case W_law_whya => k_is)
    (case W_law_whyl => k_is)
    (case W_law_whyc => k_is)
    (case W_law_whyk => k_is)
    (case W_law_whyBadNumberBadNumber => k_is)
    (case W_law_whyBadNumberBadRow => k_is)
    (case W_law_whyBadRowBadNumber => k_is)
    (case W_law_whyBadRowBadRow => k_is)
    (case cLl => k_is)
    (case cLp => rfl)
    (case cLh => kernel_rfl)
    (case cLn => kernel_rfl)
    (case cLt => kernel_rfl)
    (case nf_Machine_Graphh => k_is)
    (case kn_Machine_Graphh1 => k_is)
    (case kn_Machine_Graphh2 => k_is)
    (case kn_Machine_Graphh3 => k_is)
    (case kn_Machine_Graphh4 => rfl)
    (case y0 => k_is)
    (case y1 => k_is)
    (case y2 => k_is)
    (case y3 => k_is)
    (case y4 => k_is)
    (case y5 => k_is)
    (case y6 => k_is)
    (case y7 => k_is)
    (case y8 => k_is)
    (case y9 => k_is)
    (case y10 => k_is)
    (case y11 => k_is)
    (case y12 => k_is)
    (case y13 => k_is)
    (case y14 => k_is)
    (case y15 => k_is)
    (case y16 => k_is)
    (case y17 => k_is)
    (case y18 => k_is)
    (case y19 => k_is)
    (case y20 => k_is)
    (case y21 => k_is)
    (case z0 => k_is)
    (case z1 => k_is)
    (case z2 => k_is)
    (case z3 => k_is)
    (case z4 => k_is)
    (case z5 => k_is)
    (case z6 => k_is)
    (case z7 => k_is)
    (case z8 => k_is)

end
